import PyProof.Rows.All
import Wide.All
import OpenK.AllK
import Wide.FinOn
import PyProof.FactsAll.list_3
import PyProof.FactsAll.dict_3
import PyProof.ExcInit
import PyProof.ExcClass2
import PyProof.ExcBaseAll.Exception
import PyProof.InstStoreFacts
import Lean
import PySem.Challenge.RW_np0176_01
set_option Elab.async false
set_option autoImplicit false
section
/-! text F1 -/
open PySem PySem.W PyProof.Rows
set_option Elab.async false
namespace Mine
open Sem (wp)

/-- the built-ins whose frames hold a bytearray -/
noncomputable def badIds : List String := PySem.Builtin.Bytes.decodersThatHold ++ ["bytearray.__contains__", "bytearray.__mod__", "bytearray.__rmod__", "_struct.pack_into.held", "bytearray.find.held"]
noncomputable def okC : Code → Bool
  | .builtin id _ => !badIds.contains id
  | _ => true
noncomputable def CleanB (l : List (Code × Pos)) : Prop := ∀ x ∈ l, okC x.1 = true
theorem CleanB.cons {c : Code} {p : Pos} {l : List (Code × Pos)} (h : okC c = true) (hl : CleanB l) : CleanB ((c, p) :: l) := fun x hx => by
  rcases List.mem_cons.mp hx with rfl | hx
  · exact h
  · exact hl x hx

noncomputable def wpC {α : Type} (M : Model) (A : Around) (t : Sem α) (Q : α → Shared → Prop) (E : Value → Shared → Prop) (s : Shared) : Prop :=
  ∀ Γ p, Γ.In A → okC Γ.code = true → CleanB Γ.below → wp M Γ t (fun a _ s' => Q a s') (fun e _ s' => E e s') p s
noncomputable def codeC (M : Model) (A : Around) (c : Code) (R : Result → Shared → Prop) (s : Shared) : Prop :=
  ∀ Γ p, Γ.code = c → Γ.Below A → CleanB Γ.below → wpCode M Γ R p s

section
variable {α β : Type} {M : Model} {A : Around} {E : Value → Shared → Prop} {s : Shared}
theorem wpC_of {t : Sem α} {Q : α → Shared → Prop} (h : wpAny M A t Q E s) : wpC M A t Q E s := fun Γ p h1 _ _ => h Γ p h1
theorem wpC_pure {a : α} {Q : α → Shared → Prop} (h : Q a s) : wpC M A (pure a) Q E s := fun _ _ _ _ _ => h
theorem wpC_mono {t : Sem α} {Q Q' : α → Shared → Prop} {E' : Value → Shared → Prop} (h : wpC M A t Q E s)
    (hQ : ∀ a s, Q a s → Q' a s) (hE : ∀ e s, E e s → E' e s) : wpC M A t Q' E' s :=
  fun Γ p h1 h2 h3 => Sem.wp_mono M Γ t (fun a _ s => hQ a s) (fun e _ s => hE e s) p s (h Γ p h1 h2 h3)
theorem wpC_bind {m : Sem α} {f : α → Sem β} {Q : β → Shared → Prop} (h : wpC M A m (fun a s' => wpC M A (f a) Q E s') E s) : wpC M A (m >>= f) Q E s := fun Γ p h1 h2 h3 => by
  rw [Sem.wp_bind']
  exact Sem.wp_mono M Γ m (fun a p' s' h' => h' Γ p' h1 h2 h3) (fun _ _ _ h' => h') p s (h Γ p h1 h2 h3)
theorem wpC_onRaise {m : Sem α} {k : Value → Sem Unit} {Q : α → Shared → Prop}
    (h : wpC M A m Q (fun e s' => wpC M A (k e) (fun _ s'' => E e s'') E s') s) : wpC M A (m.onRaise k) Q E s := fun Γ p h1 h2 h3 => by
  rw [Sem.wp_onRaise]
  exact Sem.wp_mono M Γ m (fun _ _ _ h' => h') (fun e p' s' h' => h' Γ p' h1 h2 h3) p s (h Γ p h1 h2 h3)
theorem wpC_attempt {m : Sem α} {Q : Except Value α → Shared → Prop} (h : wpC M A m (fun a => Q (.ok a)) (fun e => Q (.error e)) s) :
    wpC M A m.attempt Q E s := fun Γ p h1 h2 h3 => by rw [Sem.wp_attempt]; exact h Γ p h1 h2 h3
theorem wpC_holding {vs : List Value} {m : Sem α} {Q : α → Shared → Prop} (h : wpC M A m Q E s) : wpC M A (holding vs m) Q E s :=
  fun Γ p h1 h2 h3 => by rw [Sem.wp_holding]; exact h Γ p h1 h2 h3
theorem wpC_operate {vs : List Value} {m : Sem Value} {Q : Value → Shared → Prop} (h : wpC M A m Q E s) : wpC M A (operate vs m) Q E s :=
  fun Γ p h1 h2 h3 => by rw [Sem.wp_operate]; exact h Γ p h1 h2 h3
theorem wpC_standAt {pos : Pos} {Q : Unit → Shared → Prop} (h : Q () s) : wpC M A (standAt pos) Q E s := fun _ _ _ _ _ => h
theorem wpC_point {Q : Unit → Shared → Prop} (h : Q () s) : wpC M A point Q E s := fun _ _ _ _ _ => h
theorem wpC_rule {tag : String} {Q : Unit → Shared → Prop} (h : Q () s) : wpC M A (rule tag) Q E s := fun _ _ _ _ _ => h
theorem wpC_run {c : Code} {h : Option Value} {Q : Flow → Shared → Prop}
    (hc : codeC M (A.mark h) c (fun r s' => match r with | .ok f => Q f s' | .error e => E e s') s) (hnb : h ≠ some byPass := by intro x; cases x) :
    wpC M A (run c h) Q E s :=
  fun Γ p h1 h2 h3 => by rw [Sem.wp_run]; exact hc _ p rfl (h1.enter c h p hnb) (h3.cons h2)
theorem wpC_runValue {c : Code} {Q : Value → Shared → Prop}
    (hc : codeC M A c (fun r s' => match r with | .ok (.ret v) => Q v s' | .ok _ => False | .error e => E e s') s) :
    wpC M A (runValue c) Q E s := fun Γ p h1 h2 h3 => by rw [Sem.wp_runValue]; exact hc _ p rfl (h1.enter c none p (by intro x; cases x)) (h3.cons h2)
theorem wpC_call {f : Value} {pos : List Value} {kw : List (Str × Value)} {Q : Value → Shared → Prop}
    (hc : codeC M A (.call f ⟨pos, kw⟩) (fun r s' => match r with | .ok (.ret v) => Q v s' | .ok _ => False | .error e => E e s') s) :
    wpC M A (call f pos kw) Q E s := wpC_runValue hc
theorem codeC_mono {c : Code} {R R' : Result → Shared → Prop} (h : codeC M A c R s) (hR : ∀ r s, R r s → R' r s) : codeC M A c R' s :=
  fun Γ p hc h1 h2 => wpCode_mono hR (h Γ p hc h1 h2)
theorem codeC_of_tree {c : Code} {R : Result → Shared → Prop} (ho : okC c = true)
    (h : wpC M (A.under c) (M.den c) (fun fin s' => match fin with | .done f => R (.ok f) s' | .again c' => c'.quiet = true ∧ codeC M A c' R s')
      (fun e s' => R (.error e) s') s) : codeC M A c R s := fun Γ p hc h1 h2 => by
  rw [wpCode_iff_wp, hc]
  refine Sem.wp_mono M Γ _ (fun fin p' s' h' => ?_) (fun _ _ _ h' => h') p s (h Γ p (hc ▸ h1.in) (hc ▸ ho) h2)
  cases fin with
  | done f => exact h'
  | again c' => exact ⟨h'.1, h'.2 (Γ.goto c') p' rfl (h1.goto c') h2⟩
/-- a loop's turn notes what leaves it -/
theorem wpC_noted {env : Env} {m : Sem α} {Q : α → Shared → Prop} (h : wpC M A m Q (notedBy M A env E) s) : wpC M A (m.onRaise fun x => do noteFrame x env; theTreesLotGoes x) Q E s :=
  wpC_onRaise (wpC_mono h (fun _ _ q => q) fun _ _ hx => wpC_of (wpAny_bind (wpAny_mono hx (fun _ _ e => wpAny_theTreesLotGoes e) fun _ _ e => e)))
theorem wpC_runOwn {env : Env} {c : Code} {h : Option Value} {Q : Flow → Shared → Prop}
    (hc : codeC M (A.mark h) c (fun r s' => match r with | .ok f => Q f s' | .error e => cameBackBy M A env E e s') s) (hnb : h ≠ some byPass := by intro x; cases x) :
    wpC M A (runOwn c env h) Q E s := by
  unfold runOwn
  exact wpC_onRaise (wpC_mono (wpC_run hc hnb) (fun _ _ q => q) fun _ _ q => wpC_of q)
theorem wpC_execs_nil {env : Env} {Q : Flow → Shared → Prop} (h : Q .next s) : wpC M A (execs [] env) Q E s := fun _ _ _ _ _ => h
theorem wpC_While {env : Env} {test body orelse pos} {Q : Flow → Shared → Prop}
    (h : codeC M A (.whileLoop test body orelse env) (fun r s' => match r with | .ok f => Q f s' | .error e => cameBackBy M A env E e s') s) :
    wpC M A (exec (.While test body orelse pos) env) Q E s := by
  rw [exec_While]; exact wpC_bind (wpC_standAt (wpC_runOwn h))
end
end Mine
end
section
/-! text F2 -/
open PySem PySem.W PyProof.Rows
set_option Elab.async false
namespace Mine
open Sem (wp)
section
variable {prog : Program} {w : World} {A : Around} {E : Value → Shared → Prop} {R : Result → Shared → Prop} {s : Shared} {env : Env}

theorem codeC_whileTurn {test : Expr} {body : List Stmt}
    (h : wpC (model prog w) A (isTrue test env (eval test env)) (fun b s₂ =>
        if b = true then wpC (model prog w) A (execs body env) (fun f s₃ => match f with
            | .next | .cont => codeC (model prog w) A (.whileLoop test body [] env) R s₃
            | .brk => R (.ok .next) s₃
            | .ret v => R (.ok (.ret v)) s₃) (notedBy (model prog w) A env fun e s' => R (.error e) s') s₂
        else R (.ok .next) s₂)
        (notedBy (model prog w) A env fun e s' => R (.error e) s') s) : codeC (model prog w) A (.whileLoop test body [] env) R s := by
  refine codeC_of_tree rfl ?_
  show wpC _ A ((whileTurn test body [] env).onRaise (fun x => do noteFrame x env; theTreesLotGoes x)) _ _ s
  refine wpC_noted ?_
  simp only [whileTurn]
  refine wpC_bind (wpC_mono h (fun b s₂ h₂ => ?_) fun _ _ h' => h')
  cases b with
  | false =>
    simp only [Bool.false_eq_true, if_false] at h₂ ⊢
    exact wpC_bind (wpC_execs_nil (wpC_pure h₂))
  | true =>
    simp only [if_true] at h₂ ⊢
    refine wpC_bind (wpC_mono h₂ (fun f s₃ h₃ => ?_) fun _ _ h' => h')
    cases f with
    | next => exact wpC_pure ⟨rfl, h₃⟩
    | cont => exact wpC_pure ⟨rfl, h₃⟩
    | brk => exact wpC_pure h₃
    | ret v => exact wpC_pure h₃

theorem codeC_blockNil {Q : Shared → Prop} (h : R (.ok .next) s) : codeC (model prog w) A (.block [] env) R s := by
  refine codeC_of_tree rfl ?_
  show wpC _ _ (do return Fin.done (← (execs [] env).onRaise (fun x => do noteFrame x env; theTreesLotGoes x))) _ _ s
  exact wpC_bind (wpC_noted (wpC_execs_nil (wpC_pure h)))

theorem codeC_func {body : List Stmt}
    (h : wpC (model prog w) (A.deeper env) (execs body env) (fun f s' => R (.ok (.ret (match f with | .ret v => v | _ => .none))) s')
      (fun e s' => wpAny (model prog w) (A.deeper env) (leaving env e) (fun _ s'' => R (.error e) s'') (fun e' s'' => R (.error e') s'') s') s) :
    codeC (model prog w) A (.func body env) R s := by
  refine codeC_of_tree rfl ?_
  show wpC _ (A.deeper env) (do point; match ← (execs body env).onRaise (leaving env) with | .ret v => ret v | _ => ret .none) _ _ s
  refine wpC_bind (wpC_point (wpC_bind (wpC_onRaise (wpC_mono h (fun f s' h' => ?_) fun _ _ h' => wpC_of h'))))
  cases f <;> exact wpC_pure h'

end
end Mine
end
section
/-! text F3 -/
open PySem PySem.W PyProof.Rows
set_option Elab.async false
set_option autoImplicit false
set_option linter.unusedVariables false
set_option genSizeOf false
set_option genInjectivity false
namespace Mine
open Sem (wp)

/-- what the program's values are, as data -/
inductive V where
  | none | bool (b : Bool) | int (i : Int) | bytes (ks : List Int) | tup (vs : List V) | lst (vs : List V) | ref (k : Nat) | rng (a b c : Int)
  deriving Inhabited
/-- the things that it turns -/
inductive Cell where
  | list (vs : List V) | barr (ks : List Int) | dict (f : Int → Option Int) (n : Nat) | box (v : Option V)
  deriving Inhabited

mutual
noncomputable def VR (kn : Addr → Obj → Prop) (σ : List Addr) : V → Value → Prop
  | .none, x => x = .none
  | .bool b, x => x = .bool b
  | .int i, x => ∃ t, x = .int i t
  | .bytes ks, x => ∃ b t, x = .bytes b t ∧ KBw.bInts b = ks
  | .tup vs, x => ∃ a o n vals, x = .ref a ∧ kn a o ∧ o.cls = .type "tuple" ∧ o.data = .seq (List.toArray vals) n ∧ VRs kn σ vs vals
  | .lst vs, x => ∃ a o n vals, x = .ref a ∧ kn a o ∧ o.cls = .type "list" ∧ o.data = .seq (List.toArray vals) n ∧ VRs kn σ vs vals
  | .ref k, x => ∃ a, σ[k]? = some a ∧ x = .ref a
  | .rng a b c, x => ∃ ad t u v, x = .ref ad ∧ kn ad { cls := .type "range", dict := none, data := .fields #[.int a t, .int b u, .int c v], slots := #[] }
noncomputable def VRs (kn : Addr → Obj → Prop) (σ : List Addr) : List V → List Value → Prop
  | [], xs => xs = []
  | v :: vs, xs => ∃ y ys, xs = y :: ys ∧ VR kn σ v y ∧ VRs kn σ vs ys
end

/-- more is known -/
noncomputable def Solid (o : Obj) : Prop := o.cls = .type "tuple" ∨ o.cls = .type "list" ∨ o.cls = .type "range"
noncomputable def KnLe (kn kn' : Addr → Obj → Prop) : Prop := ∀ a o, Solid o → kn a o → kn' a o
theorem KnLe.refl (kn : Addr → Obj → Prop) : KnLe kn kn := fun _ o _ h => h
theorem KnLe.trans {a b c : Addr → Obj → Prop} (h1 : KnLe a b) (h2 : KnLe b c) : KnLe a c := fun x o hs h => h2 x o hs (h1 x o hs h)
theorem pre_get {σ σ' : List Addr} (h : σ <+: σ') {k : Nat} {a : Addr} (e : σ[k]? = some a) : σ'[k]? = some a := by
  obtain ⟨r, rfl⟩ := h
  have hk : k < σ.length := (List.getElem?_eq_some_iff.mp e).1
  rw [List.getElem?_append_left hk]; exact e

mutual
theorem VR.mono {kn kn' : Addr → Obj → Prop} {σ σ' : List Addr} (h1 : KnLe kn kn') (h2 : σ <+: σ') : ∀ {v : V} {x : Value}, VR kn σ v x → VR kn' σ' v x
  | .none, _, h => by simpa only [VR] using h
  | .bool _, _, h => by simpa only [VR] using h
  | .int _, _, h => by simpa only [VR] using h
  | .bytes _, _, h => by simpa only [VR] using h
  | .tup vs, _, h => by
    simp only [VR] at h ⊢
    obtain ⟨a, o, n, vals, e, hk, hc, hd, hv⟩ := h
    exact ⟨a, o, n, vals, e, h1 a o (.inl hc) hk, hc, hd, VRs.mono h1 h2 hv⟩
  | .lst vs, _, h => by
    simp only [VR] at h ⊢
    obtain ⟨a, o, n, vals, e, hk, hc, hd, hv⟩ := h
    exact ⟨a, o, n, vals, e, h1 a o (.inr (.inl hc)) hk, hc, hd, VRs.mono h1 h2 hv⟩
  | .ref k, _, h => by
    simp only [VR] at h ⊢
    obtain ⟨a, e, hx⟩ := h
    exact ⟨a, pre_get h2 e, hx⟩
  | .rng _ _ _, _, h => by
    simp only [VR] at h ⊢
    obtain ⟨ad, t, u, v, e, hx⟩ := h
    exact ⟨ad, t, u, v, e, h1 _ _ (.inr (.inr rfl)) hx⟩
theorem VRs.mono {kn kn' : Addr → Obj → Prop} {σ σ' : List Addr} (h1 : KnLe kn kn') (h2 : σ <+: σ') : ∀ {vs : List V} {xs : List Value}, VRs kn σ vs xs → VRs kn' σ' vs xs
  | [], _, h => by simpa only [VRs] using h
  | v :: vs, _, h => by
    simp only [VRs] at h ⊢
    obtain ⟨y, ys, e, hv, hs⟩ := h
    exact ⟨y, ys, e, VR.mono h1 h2 hv, VRs.mono h1 h2 hs⟩
end
theorem VRs.append {kn : Addr → Obj → Prop} {σ : List Addr} : ∀ {vs ws : List V} {xs ys : List Value}, VRs kn σ vs xs → VRs kn σ ws ys → VRs kn σ (vs ++ ws) (xs ++ ys)
  | [], _, _, _, h1, h2 => by simp only [VRs] at h1; subst h1; exact h2
  | v :: vs, ws, _, ys, h1, h2 => by
    simp only [VRs] at h1
    obtain ⟨y, zs, rfl, hv, hs⟩ := h1
    simp only [List.cons_append, VRs]
    exact ⟨y, zs ++ ys, rfl, hv, VRs.append hs h2⟩
theorem VRs.length {kn : Addr → Obj → Prop} {σ : List Addr} : ∀ {vs : List V} {xs : List Value}, VRs kn σ vs xs → xs.length = vs.length
  | [], _, h => by simp only [VRs] at h; subst h; rfl
  | v :: vs, _, h => by
    simp only [VRs] at h
    obtain ⟨y, ys, rfl, _, hs⟩ := h
    simp [VRs.length hs]
theorem VRs.one {kn : Addr → Obj → Prop} {σ : List Addr} {v : V} {x : Value} (h : VR kn σ v x) : VRs kn σ [v] [x] := by
  simp only [VRs]; exact ⟨x, [], rfl, h, rfl⟩
theorem VRs.get {kn : Addr → Obj → Prop} {σ : List Addr} : ∀ {vs : List V} {xs : List Value} {i : Nat} {v : V}, VRs kn σ vs xs → vs[i]? = some v → ∃ x, xs[i]? = some x ∧ VR kn σ v x
  | [], _, _, _, _, e => by simp at e
  | w :: vs, _, i, v, h, e => by
    simp only [VRs] at h
    obtain ⟨y, ys, rfl, hv, hs⟩ := h
    cases i with
    | zero => simp at e; subst e; exact ⟨y, by simp, hv⟩
    | succ i =>
      simp at e
      obtain ⟨x, h1, h2⟩ := VRs.get hs e
      exact ⟨x, by simpa using h1, h2⟩
theorem VRs.take {kn : Addr → Obj → Prop} {σ : List Addr} : ∀ {vs : List V} {xs : List Value} (n : Nat), VRs kn σ vs xs → VRs kn σ (vs.take n) (xs.take n)
  | _, _, 0, _ => by simp [VRs]
  | [], _, n + 1, h => by simp only [VRs] at h; subst h; simp [VRs]
  | v :: vs, _, n + 1, h => by
    simp only [VRs] at h
    obtain ⟨y, ys, rfl, hv, hs⟩ := h
    simp only [List.take_succ_cons, VRs]
    exact ⟨y, _, rfl, hv, VRs.take n hs⟩
theorem VRs.drop {kn : Addr → Obj → Prop} {σ : List Addr} : ∀ {vs : List V} {xs : List Value} (n : Nat), VRs kn σ vs xs → VRs kn σ (vs.drop n) (xs.drop n)
  | _, _, 0, h => by simpa using h
  | [], _, n + 1, h => by simp only [VRs] at h; subst h; simp [VRs]
  | v :: vs, _, n + 1, h => by
    simp only [VRs] at h
    obtain ⟨y, ys, rfl, hv, hs⟩ := h
    simpa using VRs.drop n hs

/-- an object that is a cell's -/
noncomputable def CellO (prog : Program) (w : World) (kn : Addr → Obj → Prop) (σ : List Addr) : Cell → Obj → Prop
  | .list vs, o => o.cls = .type "list" ∧ o.dict = none ∧ ∃ n vals, o.data = .seq (List.toArray vals) n ∧ VRs kn σ vs vals
  | .barr ks, o => o.cls = .type "bytearray" ∧ o.dict = none ∧ ∃ b, o.data = .bytearray b 0 ∧ KBw.bInts b = ks
  | .dict f n, o => o.ExactDict ∧ ∃ es ep, o.data = .dict es ep ∧ KeysOf (intKind prog w) es ∧ es.size ≤ n ∧ ∀ k, match f k with
      | some i => ∃ t, findBy (intKind prog w).is es k = some (.int i t)
      | .none => findBy (intKind prog w).is es k = .none
  | .box v, o => ∃ x, o.data = .cell x ∧ match v with
    | some v => ∃ y, x = some y ∧ VR kn σ v y
    | .none => True
theorem CellO.mono {prog : Program} {w : World} {kn kn' : Addr → Obj → Prop} {σ σ' : List Addr} (h1 : KnLe kn kn') (h2 : σ <+: σ') : ∀ {c : Cell} {o : Obj}, CellO prog w kn σ c o → CellO prog w kn' σ' c o
  | .list _, _, ⟨a, b, n, vals, d, h⟩ => ⟨a, b, n, vals, d, VRs.mono h1 h2 h⟩
  | .barr _, _, h => h
  | .dict _ _, _, h => h
  | .box (some v), _, ⟨x, d, y, e, h⟩ => ⟨x, d, y, e, h.mono h1 h2⟩
  | .box .none, _, h => h

/-- the state of an activation, as data: its locals by number, its cells -/
structure St where
  loc : List (Option V)
  cells : List Cell
  deriving Inhabited
inductive R (α : Type) where
  | ok (a : α) (st : St)
  | exc
  | fail
noncomputable def R.bind {α β : Type} (r : R α) (f : α → St → R β) : R β := match r with
  | .ok a st => f a st
  | .exc => .exc
  | .fail => .fail

/-- an activation: what does not turn -/
structure Act where
  w : World
  K : Frag
  mg : Str → Option Value
  mb : Str → Option Value
  H0 : Heap
  Hk : Heap
  A : Around
  env : Env
  L : Addr
  outer : List Env
  stk : List Env
  outs : List (Addr × (Str → Option Value))
  sig0 : List Addr
  s0 : Shared
  names : List Str

noncomputable def ImmLe (imm imm' : List (Addr × Obj)) : Prop := ∀ p ∈ imm, p ∈ imm'
theorem ImmLe.refl (imm : List (Addr × Obj)) : ImmLe imm imm := fun p hp => hp
theorem ImmLe.trans {a b c : List (Addr × Obj)} (h1 : ImmLe a b) (h2 : ImmLe b c) : ImmLe a c := fun p hp => h2 p (h1 p hp)
theorem ImmLe.of_sub {a b : List (Addr × Obj)} (h : ∀ p ∈ a, p ∈ b) : ImmLe a b := h
noncomputable def kno (imm : List (Addr × Obj)) (H0 : Heap) (a : Addr) (o : Obj) : Prop := (a, o) ∈ imm ∨ H0.get? a = some o

/-- what stands in a state -/
structure Rel (prog : Program) (Φ : Act) (σ : List Addr) (imm : List (Addr × Obj)) (st : St) (s : Shared) : Prop where
  gens : s.gens = Φ.s0.gens
  drawn : s.drawn = Φ.s0.drawn
  os : s.os = Φ.s0.os
  keep : ∀ b o, Φ.H0.get? b = some o → s.heap.get? b = some o
  loc : ∃ m : Str → Option Value, s.heap.Ns Φ.L m ∧ ∀ (i : Nat) (x : Str) (v : V), Φ.names[i]? = some x → st.loc[i]? = some (some v) → ∃ val, m x = some val ∧ VR (kno imm Φ.Hk) σ v val
  len : σ.length = st.cells.length
  cells : ∀ (k : Nat) (a : Addr) (c : Cell), σ[k]? = some a → st.cells[k]? = some c → ∃ o, s.heap.get? a = some o ∧ CellO prog Φ.w (kno imm Φ.Hk) σ c o
  immK : ∀ p ∈ imm, s.heap.get? p.1 = some p.2
  outs : ∀ p ∈ Φ.outs, s.heap.Ns p.1 p.2
  newL : Φ.H0.objs.size ≤ Φ.L
  newC : ∀ a ∈ σ, Φ.H0.get? a = none ∧ a ≠ Φ.L ∧ (∀ p ∈ imm, p.1 ≠ a) ∧ ∀ p ∈ Φ.outs, p.1 ≠ a
  newI : ∀ p ∈ imm, Φ.H0.get? p.1 = none ∧ p.1 ≠ Φ.L ∧ ∀ q ∈ Φ.outs, p.1 ≠ q.1
  newO : ∀ p ∈ Φ.outs, Φ.H0.get? p.1 = none ∧ p.1 ≠ Φ.L
  nod : σ.Nodup
  pre : Φ.sig0 <+: σ
  hk : ∀ b o, Φ.Hk.get? b = some o → Φ.H0.get? b = some o
  noSys : sysModules ∉ σ
  low : sysModules < Φ.H0.objs.size

section
variable {prog : Program} {Φ : Act} {σ : List Addr} {imm : List (Addr × Obj)} {st : St} {s : Shared}
theorem kno.le {imm' : List (Addr × Obj)} {H0 : Heap} (h : ∀ p ∈ imm, p ∈ imm') : KnLe (kno imm H0) (kno imm' H0) := fun a o _ hk => hk.imp (h _) id
theorem kno.leI {imm' : List (Addr × Obj)} {H0 : Heap} (h : ImmLe imm imm') : KnLe (kno imm H0) (kno imm' H0) := kno.le h
theorem Rel.known (r : Rel prog Φ σ imm st s) {a : Addr} {o : Obj} (h : kno imm Φ.Hk a o) : s.heap.get? a = some o := h.elim (fun h => r.immK _ h) fun h => r.keep _ _ (r.hk _ _ h)
theorem none_of_size {h : Heap} {a : Addr} (ha : h.objs.size ≤ a) : h.get? a = none := by
  cases e : h.get? a with
  | none => rfl
  | some o => exact absurd (Heap.lt_size e) (Nat.not_lt.mpr ha)
theorem ne_of_get {h : Heap} {a b : Addr} {o : Obj} (h1 : h.get? a = some o) (h2 : h.get? b = none) : a ≠ b := fun e => by rw [e, h2] at h1; cases h1

/-- the heap has grown, nothing that stood has turned -/
theorem Rel.grow (r : Rel prog Φ σ imm st s) {s' : Shared} (hk : ∀ b o, s.heap.get? b = some o → s'.heap.get? b = some o) (hg : s'.gens = s.gens) (hd : s'.drawn = s.drawn) (ho : s'.os = s.os) : Rel prog Φ σ imm st s' where
  gens := hg.trans r.gens
  drawn := hd.trans r.drawn
  os := ho.trans r.os
  keep := fun b o h => hk _ _ (r.keep b o h)
  loc := let ⟨m, h1, h2⟩ := r.loc; ⟨m, h1.keeps hk, h2⟩
  len := r.len
  cells := fun k a c h1 h2 => let ⟨o, h3, h4⟩ := r.cells k a c h1 h2; ⟨o, hk _ _ h3, h4⟩
  immK := fun p hp => hk _ _ (r.immK p hp)
  outs := fun p hp => (r.outs p hp).keeps hk
  newL := r.newL
  newC := r.newC
  newI := r.newI
  newO := r.newO
  nod := r.nod
  pre := r.pre
  hk := r.hk
  noSys := r.noSys
  low := r.low
/-- something new is known -/
theorem Rel.addImm (r : Rel prog Φ σ imm st s) {a : Addr} {o : Obj} (h : s.heap.get? a = some o) (h0 : Φ.H0.get? a = none) (hL : a ≠ Φ.L) (hC : a ∉ σ) (hO : ∀ q ∈ Φ.outs, a ≠ q.1) : Rel prog Φ σ (imm ++ [(a, o)]) st s where
  gens := r.gens
  drawn := r.drawn
  os := r.os
  keep := r.keep
  loc := let ⟨m, h1, h2⟩ := r.loc; ⟨m, h1, fun i x v e1 e2 => let ⟨val, h3, h4⟩ := h2 i x v e1 e2; ⟨val, h3, h4.mono (kno.le fun p hp => List.mem_append_left _ hp) (List.prefix_refl _)⟩⟩
  len := r.len
  cells := fun k a' c h1 h2 => let ⟨o', h3, h4⟩ := r.cells k a' c h1 h2; ⟨o', h3, h4.mono (kno.le fun p hp => List.mem_append_left _ hp) (List.prefix_refl _)⟩
  immK := fun p hp => by
    rcases List.mem_append.mp hp with hp | hp
    · exact r.immK p hp
    · rw [List.mem_singleton.mp hp]; exact h
  outs := r.outs
  newL := r.newL
  newC := fun b hb => let ⟨x1, x2, x3, x4⟩ := r.newC b hb; ⟨x1, x2, fun p hp => by
    rcases List.mem_append.mp hp with hp | hp
    · exact x3 p hp
    · rw [List.mem_singleton.mp hp]; exact fun e => hC (by rw [show a = b from e]; exact hb), x4⟩
  newI := fun p hp => by
    rcases List.mem_append.mp hp with hp | hp
    · exact r.newI p hp
    · rw [List.mem_singleton.mp hp]; exact ⟨h0, hL, hO⟩
  newO := r.newO
  nod := r.nod
  pre := r.pre
  hk := r.hk
  noSys := r.noSys
  low := r.low
/-- an address that was free is nobody's -/
theorem Rel.free (r : Rel prog Φ σ imm st s) {a : Addr} (h : s.heap.get? a = none) : Φ.H0.get? a = none ∧ a ≠ Φ.L ∧ a ∉ σ ∧ (∀ p ∈ imm, p.1 ≠ a) ∧ ∀ p ∈ Φ.outs, p.1 ≠ a := by
  refine ⟨?_, ?_, ?_, ?_, ?_⟩
  · cases e : Φ.H0.get? a with
    | none => rfl
    | some o => have := r.keep _ _ e; rw [h] at this; cases this
  · rintro rfl
    obtain ⟨m, ⟨o, _, _, h1, _⟩, _⟩ := r.loc
    rw [h] at h1; cases h1
  · intro hm
    obtain ⟨k, hk, e⟩ := List.getElem_of_mem hm
    have e1 : σ[k]? = some a := by rw [List.getElem?_eq_getElem hk, e]
    have hk' : k < st.cells.length := r.len ▸ hk
    obtain ⟨o, h1, _⟩ := r.cells k a _ e1 (List.getElem?_eq_getElem hk')
    rw [h] at h1; cases h1
  · rintro p hp rfl
    have := r.immK p hp; rw [h] at this; cases this
  · rintro p hp rfl
    obtain ⟨o, _, _, h1, _⟩ := r.outs p hp
    rw [h] at h1; cases h1
theorem get_size (h : Heap) : h.get? h.objs.size = none := by
  cases e : h.get? h.objs.size with
  | none => rfl
  | some o => exact absurd (Heap.lt_size e) (Nat.lt_irrefl _)
/-- a new object that will not turn -/
theorem Rel.pushImm (r : Rel prog Φ σ imm st s) (o : Obj) (hf : o.isFreed = false) (tk : Nat) :
    Rel prog Φ σ (imm ++ [(s.heap.objs.size, o)]) st { s with heap := s.heap.push o, toks := tk } := by
  obtain ⟨h1, h2, h3, _, h5⟩ := r.free (get_size _)
  have r' : Rel prog Φ σ imm st { s with heap := s.heap.push o, toks := tk } := r.grow (fun b o' h => Heap.get?_push_of_some _ h) rfl rfl rfl
  exact r'.addImm (Heap.get?_push_size _ hf) h1 h2 h3 fun q hq => Ne.symm (h5 q hq)
theorem Rel.sysNe (r : Rel prog Φ σ imm st s) : sysModules ≠ s.heap.objs.size := by
  obtain ⟨m, hn, _⟩ := r.loc
  exact Nat.ne_of_lt (Nat.lt_trans (Nat.lt_of_lt_of_le r.low r.newL) hn.lt)
/-- what stands already becomes a cell -/
theorem Rel.addCell (r : Rel prog Φ σ imm st s) {o : Obj} {c : Cell} {a : Addr} (ho : s.heap.get? a = some o) (hc : CellO prog Φ.w (kno imm Φ.Hk) (σ ++ [a]) c o)
    (h0 : Φ.H0.get? a = none) (h2 : a ≠ Φ.L) (h3 : a ∉ σ) (h4 : ∀ p ∈ imm, p.1 ≠ a) (h5 : ∀ p ∈ Φ.outs, p.1 ≠ a) (h6 : sysModules ≠ a) :
    Rel prog Φ (σ ++ [a]) imm { st with cells := st.cells ++ [c] } s := by
  have hp : σ <+: σ ++ [a] := List.prefix_append _ _
  refine ⟨r.gens, r.drawn, r.os, r.keep, ?_, ?_, ?_, r.immK, r.outs, r.newL, ?_, r.newI, r.newO, ?_, r.pre.trans hp, r.hk, ?_, r.low⟩
  · obtain ⟨m, e1, e2⟩ := r.loc
    exact ⟨m, e1, fun i x v q1 q2 => let ⟨val, q3, q4⟩ := e2 i x v q1 q2; ⟨val, q3, q4.mono (KnLe.refl _) hp⟩⟩
  · simp [r.len]
  · intro k b c' e1 e2
    by_cases hlt : k < σ.length
    · rw [List.getElem?_append_left hlt] at e1
      have e2' : st.cells[k]? = some c' := by
        have : (st.cells ++ [c])[k]? = some c' := e2
        rwa [List.getElem?_append_left (r.len ▸ hlt)] at this
      obtain ⟨o', q1, q2⟩ := r.cells k b c' e1 e2'
      exact ⟨o', q1, q2.mono (KnLe.refl _) hp⟩
    · have hke : k = σ.length := by
        have := (List.getElem?_eq_some_iff.mp e1).1
        simp at this; lia
      subst hke
      rw [List.getElem?_concat_length] at e1
      cases e1
      have e2' : (st.cells ++ [c])[st.cells.length]? = some c' := r.len ▸ e2
      rw [List.getElem?_concat_length] at e2'
      cases e2'
      exact ⟨o, ho, hc⟩
  · intro b hb
    rcases List.mem_append.mp hb with hb | hb
    · exact r.newC b hb
    · rw [List.mem_singleton.mp hb]; exact ⟨h0, h2, h4, h5⟩
  · rw [List.nodup_append]
    refine ⟨r.nod, by simp, fun b hb d hd => ?_⟩
    rw [List.mem_singleton.mp hd]
    exact fun e => h3 (e ▸ hb)
  · intro hb
    rcases List.mem_append.mp hb with hb | hb
    · exact r.noSys hb
    · exact h6 (List.mem_singleton.mp hb)
/-- a new cell -/
theorem Rel.pushCell (r : Rel prog Φ σ imm st s) {o : Obj} {c : Cell} (hf : o.isFreed = false) (tk : Nat) (hc : CellO prog Φ.w (kno imm Φ.Hk) (σ ++ [s.heap.objs.size]) c o) :
    Rel prog Φ (σ ++ [s.heap.objs.size]) imm { st with cells := st.cells ++ [c] } { s with heap := s.heap.push o, toks := tk } := by
  obtain ⟨h1, h2, h3, h4, h5⟩ := r.free (get_size _)
  have r' : Rel prog Φ σ imm st { s with heap := s.heap.push o, toks := tk } := r.grow (fun b o' h => Heap.get?_push_of_some _ h) rfl rfl rfl
  exact r'.addCell (Heap.get?_push_size _ hf) hc h1 h2 h3 h4 h5 r.sysNe
/-- a local is bound -/
theorem Rel.setLoc (r : Rel prog Φ σ imm st s) {i : Nat} {x : Str} {v : V} {val : Value} {m : Str → Option Value} {h' : Heap} {tk : Nat}
    (hn : s.heap.Ns Φ.L m) (hm : ∀ (i : Nat) (x : Str) (v : V), Φ.names[i]? = some x → st.loc[i]? = some (some v) → ∃ val, m x = some val ∧ VR (kno imm Φ.Hk) σ v val)
    (hn' : h'.Ns Φ.L (fun y => if y = x then some val else m y)) (hs : Heap.SameBut Φ.L s.heap h') (hi : Φ.names[i]? = some x) (hnd : Φ.names.Nodup)
    (hv : VR (kno imm Φ.Hk) σ v val) : Rel prog Φ σ imm { st with loc := st.loc.set i (some v) } { s with heap := h', toks := tk } := by
  have other : ∀ {b : Addr} {o : Obj}, b ≠ Φ.L → s.heap.get? b = some o → h'.get? b = some o := fun hb e => (hs.2 _ hb).trans e
  refine ⟨r.gens, r.drawn, r.os, fun b o h => other (ne_of_get h (none_of_size r.newL)) (r.keep b o h), ⟨_, hn', ?_⟩, r.len, ?_, fun p hp => other (r.newI p hp).2.1 (r.immK p hp),
    fun p hp => (r.outs p hp).sameBut hs (r.newO p hp).2, r.newL, r.newC, r.newI, r.newO, r.nod, r.pre, r.hk, r.noSys, r.low⟩
  · intro j y u e1 e2
    by_cases hj : i = j
    · subst hj
      rw [hi] at e1; cases e1
      have e3 : (st.loc.set i (some v))[i]? = some (some u) := e2
      rw [List.getElem?_set] at e3
      simp only [if_true] at e3
      split at e3
      · cases e3; exact ⟨val, by simp, hv⟩
      · cases e3
    · have e3 : (st.loc.set i (some v))[j]? = some (some u) := e2
      rw [List.getElem?_set_ne hj] at e3
      obtain ⟨w, q1, q2⟩ := hm j y u e1 e3
      refine ⟨w, ?_, q2⟩
      rw [if_neg]
      · exact q1
      · rintro rfl
        have h1 := List.getElem?_eq_some_iff.mp hi
        have h2 := List.getElem?_eq_some_iff.mp e1
        exact hj ((List.getElem?_inj h1.1 hnd).mp (hi.trans e1.symm))
  · intro k a c e1 e2
    obtain ⟨o, q1, q2⟩ := r.cells k a c e1 e2
    exact ⟨o, other (r.newC a (List.mem_of_getElem? e1)).2.1 q1, q2⟩
/-- a cell turns -/
theorem Rel.setCell (r : Rel prog Φ σ imm st s) {k : Nat} {a : Addr} {c : Cell} {o : Obj} {s' : Shared} (hk : σ[k]? = some a)
    (ho : s'.heap.get? a = some o) (hc : CellO prog Φ.w (kno imm Φ.Hk) σ c o) (hs : ∀ b o', b ≠ a → s.heap.get? b = some o' → s'.heap.get? b = some o')
    (hg : s'.gens = s.gens) (hd : s'.drawn = s.drawn) (hos : s'.os = s.os) : Rel prog Φ σ imm { st with cells := st.cells.set k c } s' := by
  have hm : a ∈ σ := List.mem_of_getElem? hk
  obtain ⟨n1, n2, n3, n4⟩ := r.newC a hm
  refine ⟨hg.trans r.gens, hd.trans r.drawn, hos.trans r.os, fun b o h => hs _ _ (ne_of_get h n1) (r.keep b o h), ?_, by simpa using r.len, ?_, fun p hp => hs _ _ (n3 p hp) (r.immK p hp), ?_, r.newL, r.newC, r.newI, r.newO, r.nod, r.pre, r.hk, r.noSys, r.low⟩
  · obtain ⟨m, e1, e2⟩ := r.loc
    exact ⟨m, by obtain ⟨oL, es, ep, q1, q2⟩ := e1; exact ⟨oL, es, ep, hs _ _ (Ne.symm n2) q1, q2⟩, e2⟩
  · intro j b c' e1 e2
    by_cases hj : k = j
    · subst hj
      rw [hk] at e1; cases e1
      have e3 : (st.cells.set k c)[k]? = some c' := e2
      rw [List.getElem?_set] at e3
      simp only [if_true] at e3
      split at e3
      · cases e3; exact ⟨o, ho, hc⟩
      · cases e3
    · have e3 : (st.cells.set k c)[j]? = some c' := e2
      rw [List.getElem?_set_ne hj] at e3
      obtain ⟨o', q1, q2⟩ := r.cells j b c' e1 e3
      refine ⟨o', hs _ _ ?_ q1, q2⟩
      rintro rfl
      have h1 := List.getElem?_eq_some_iff.mp hk
      have h2 := List.getElem?_eq_some_iff.mp e1
      exact hj ((List.getElem?_inj h1.1 r.nod).mp (hk.trans e1.symm))
  · intro p hp
    obtain ⟨oL, es, ep, q1, q2⟩ := r.outs p hp
    exact ⟨oL, es, ep, hs _ _ (n4 p hp) q1, q2⟩
end
end Mine
end
section
/-! text F4 -/
open PySem PySem.W PyProof.Rows
set_option Elab.async false
set_option autoImplicit false
set_option linter.unusedVariables false
namespace Mine
open Sem (wp)

/-- the exception that the program may raise leaves an activation -/
noncomputable def XPost (Φ : Act) (e : Value) (s' : Shared) : Prop :=
  ∃ x a0, e = .ref x ∧ Heap.FlyingW Φ.H0 Φ.outer x (.ref 44) a0 s'.heap ∧ s'.gens = Φ.s0.gens ∧ s'.drawn = Φ.s0.drawn ∧ s'.os = Φ.s0.os ∧ (∀ p ∈ Φ.outs, s'.heap.Ns p.1 p.2) ∧ ∃ m, s'.heap.Ns Φ.L m
noncomputable def Eb (prog : Program) (Φ : Act) (e : Value) (s' : Shared) : Prop :=
  wpAny (model prog Φ.w) Φ.A (leaving Φ.env e) (fun _ s'' => XPost Φ e s'') (fun _ _ => False) s'

abbrev VRel (β α : Type) := (Addr → Obj → Prop) → List Addr → β → α → Prop

/-- the tree t does what r says -/
noncomputable def Snd {α β : Type} (prog : Program) (Φ : Act) (ρ : VRel β α) (t : Sem α) (r : R β) (σ : List Addr) (imm : List (Addr × Obj)) (s : Shared) : Prop :=
  r ≠ .fail → wpC (model prog Φ.w) Φ.A t (fun a s' => ∃ b st' σ' imm', r = .ok b st' ∧ σ <+: σ' ∧ ImmLe imm imm' ∧ Rel prog Φ σ' imm' st' s' ∧ ρ (kno imm' Φ.Hk) σ' b a)
    (fun e s' => r = .exc ∧ Eb prog Φ e s') s

section
variable {prog : Program} {Φ : Act} {σ : List Addr} {imm : List (Addr × Obj)} {st : St} {s : Shared} {α β γ δ : Type}

theorem Snd.bind {ρ : VRel β α} {ρ' : VRel δ γ} {t : Sem α} {f : α → Sem γ} {r : R β} {g : β → St → R δ}
    (h1 : Snd prog Φ ρ t r σ imm s)
    (h2 : ∀ b st' σ' imm' a s', r = .ok b st' → σ <+: σ' → ImmLe imm imm' → Rel prog Φ σ' imm' st' s' → ρ (kno imm' Φ.Hk) σ' b a → Snd prog Φ ρ' (f a) (g b st') σ' imm' s') :
    Snd prog Φ ρ' (t >>= f) (r.bind g) σ imm s := by
  intro hne
  have hr : r ≠ .fail := fun e => hne (by rw [e]; rfl)
  refine wpC_bind (wpC_mono (h1 hr) ?_ ?_)
  · rintro a s' ⟨b, st', σ', imm', rfl, hp, hi, hR, hρ⟩
    refine wpC_mono (h2 b st' σ' imm' a s' rfl hp hi hR hρ hne) ?_ ?_
    · rintro c s'' ⟨d, st'', σ'', imm'', e, hp', hi', hR', hρ'⟩
      exact ⟨d, st'', σ'', imm'', e, hp.trans hp', hi.trans hi', hR', hρ'⟩
    · rintro e s'' ⟨e1, e2⟩
      exact ⟨e1, e2⟩
  · rintro e s' ⟨rfl, h⟩
    exact ⟨rfl, h⟩
theorem Snd.pure {ρ : VRel β α} {a : α} {b : β} (hR : Rel prog Φ σ imm st s) (hρ : ρ (kno imm Φ.Hk) σ b a) : Snd prog Φ ρ (Pure.pure a) (.ok b st) σ imm s := fun _ =>
  wpC_pure ⟨b, st, σ, imm, rfl, List.prefix_refl _, .refl _, hR, hρ⟩
/-- a step that only stands somewhere -/
theorem Snd.stand {ρ : VRel β α} {pos : Pos} {f : Unit → Sem α} {r : R β} (h : Snd prog Φ ρ (f ()) r σ imm s) : Snd prog Φ ρ (standAt pos >>= f) r σ imm s := fun hne =>
  wpC_bind (wpC_standAt (h hne))
theorem Snd.rule {ρ : VRel β α} {tag : String} {f : Unit → Sem α} {r : R β} (h : Snd prog Φ ρ (f ()) r σ imm s) : Snd prog Φ ρ (PySem.rule tag >>= f) r σ imm s := fun hne =>
  wpC_bind (wpC_rule (h hne))
theorem Snd.holding {ρ : VRel β α} {vs : List Value} {t : Sem α} {r : R β} (h : Snd prog Φ ρ t r σ imm s) : Snd prog Φ ρ (PySem.holding vs t) r σ imm s := fun hne =>
  wpC_holding (h hne)
theorem Snd.operate {ρ : VRel β Value} {vs : List Value} {t : Sem Value} {r : R β} (h : Snd prog Φ ρ t r σ imm s) : Snd prog Φ ρ (PySem.operate vs t) r σ imm s := fun hne =>
  wpC_operate (h hne)
/-- a leaf: a rule of the library that gives a value -/
theorem Snd.leaf {ρ : VRel β α} {t : Sem α} {r : R β} {b : β} {st' : St} (hr : r = .ok b st')
    (h : wpAny (model prog Φ.w) Φ.A t (fun a s' => ∃ σ' imm', σ <+: σ' ∧ ImmLe imm imm' ∧ Rel prog Φ σ' imm' st' s' ∧ ρ (kno imm' Φ.Hk) σ' b a) (fun _ _ => False) s) : Snd prog Φ ρ t r σ imm s := fun _ =>
  wpC_of (wpAny_mono h (fun a s' ⟨σ', imm', h1, h2, h3, h4⟩ => ⟨b, st', σ', imm', hr, h1, h2, h3, h4⟩) fun _ _ x => x.elim)
theorem Snd.leafC {ρ : VRel β α} {t : Sem α} {r : R β} {b : β} {st' : St} (hr : r = .ok b st')
    (h : wpC (model prog Φ.w) Φ.A t (fun a s' => ∃ σ' imm', σ <+: σ' ∧ ImmLe imm imm' ∧ Rel prog Φ σ' imm' st' s' ∧ ρ (kno imm' Φ.Hk) σ' b a) (fun _ _ => False) s) : Snd prog Φ ρ t r σ imm s := fun _ =>
  wpC_mono h (fun a s' ⟨σ', imm', h1, h2, h3, h4⟩ => ⟨b, st', σ', imm', hr, h1, h2, h3, h4⟩) fun _ _ x => x.elim
theorem Snd.fail {ρ : VRel β α} {t : Sem α} : Snd prog Φ ρ t (.fail : R β) σ imm s := fun h => absurd rfl h
theorem Snd.ite {ρ : VRel β α} {t : Sem α} {r : R β} {c : Prop} [Decidable c] (h : c → Snd prog Φ ρ t r σ imm s) : Snd prog Φ ρ t (if c then r else .fail) σ imm s := by
  by_cases hc : c
  · rw [if_pos hc]; exact h hc
  · rw [if_neg hc]; exact Snd.fail
end
end Mine
end
section
/-! text F5 -/
open PySem PySem.W PyProof.Rows
set_option Elab.async false
set_option autoImplicit false
set_option linter.unusedVariables false
namespace Mine
open Sem (wp)

/-! what the relation says in the library's words: a frame and a ledger -/
section
variable {prog : Program} {Φ : Act} {σ : List Addr} {imm : List (Addr × Obj)} {st : St} {s : Shared}
noncomputable def led (Φ : Act) (σ : List Addr) (imm : List (Addr × Obj)) (h : Heap) : List (Addr × Obj) :=
  (σ ++ imm.map (·.1) ++ Φ.outs.map (·.1)).filterMap fun a => (h.get? a).map fun o => (a, o)
theorem mem_led {h : Heap} {a : Addr} {o : Obj} (hm : a ∈ σ ++ imm.map (·.1) ++ Φ.outs.map (·.1)) (ho : h.get? a = some o) : (a, o) ∈ led Φ σ imm h :=
  List.mem_filterMap.mpr ⟨a, hm, by rw [ho]; rfl⟩
noncomputable def LocOk (Φ : Act) (σ : List Addr) (imm : List (Addr × Obj)) (st : St) (m : Str → Option Value) : Prop :=
  ∀ (i : Nat) (x : Str) (v : V), Φ.names[i]? = some x → st.loc[i]? = some (some v) → ∃ val, m x = some val ∧ VR (kno imm Φ.Hk) σ v val
theorem Rel.fr (r : Rel prog Φ σ imm st s) : ∃ m, Fr Φ.H0 Φ.L s.heap m ∧ LocOk Φ σ imm st m := by
  obtain ⟨m, h1, h2⟩ := r.loc
  exact ⟨m, ⟨h1, r.keep, r.newL⟩, h2⟩
theorem Rel.news (r : Rel prog Φ σ imm st s) : News Φ.H0 Φ.L s.heap (led Φ σ imm s.heap) := by
  rintro ⟨a, o⟩ hp
  obtain ⟨b, hb, e⟩ := List.mem_filterMap.mp hp
  obtain ⟨o', ho, e⟩ := Option.map_eq_some_iff.mp e
  cases e
  refine ⟨ho, ?_⟩
  rcases List.mem_append.mp hb with hb | hb
  · rcases List.mem_append.mp hb with hb | hb
    · exact ⟨(r.newC _ hb).2.1, (r.newC _ hb).1⟩
    · obtain ⟨p, hp', rfl⟩ := List.mem_map.mp hb
      exact ⟨(r.newI p hp').2.1, (r.newI p hp').1⟩
  · obtain ⟨p, hp', rfl⟩ := List.mem_map.mp hb
    exact ⟨(r.newO p hp').2, (r.newO p hp').1⟩
theorem Rel.growF (r : Rel prog Φ σ imm st s) {m : Str → Option Value} {h' : Heap} {news : List (Addr × Obj)} (F : Fr Φ.H0 Φ.L h' m) (hm : LocOk Φ σ imm st m)
    (N : News Φ.H0 Φ.L h' news) (hs : ∀ p ∈ led Φ σ imm s.heap, p ∈ news) (tk : Nat) : Rel prog Φ σ imm st { s with heap := h', toks := tk } := by
  have k : ∀ a o, a ∈ σ ++ imm.map (·.1) ++ Φ.outs.map (·.1) → s.heap.get? a = some o → h'.get? a = some o := fun a o h1 h2 => (N _ (hs _ (mem_led h1 h2))).1
  refine ⟨r.gens, r.drawn, r.os, F.keep, ⟨m, F.ns, hm⟩, r.len, ?_, ?_, ?_, r.newL, r.newC, r.newI, r.newO, r.nod, r.pre, r.hk, r.noSys, r.low⟩
  · intro i a c e1 e2
    obtain ⟨o, h1, h2⟩ := r.cells i a c e1 e2
    exact ⟨o, k a o (List.mem_append_left _ (List.mem_append_left _ (List.mem_of_getElem? e1))) h1, h2⟩
  · exact fun p hp => k _ _ (List.mem_append_left _ (List.mem_append_right _ (List.mem_map_of_mem hp))) (r.immK p hp)
  · intro p hp
    obtain ⟨o, es, ep, h1, h2⟩ := r.outs p hp
    exact ⟨o, es, ep, k _ _ (List.mem_append_right _ (List.mem_map_of_mem hp)) h1, h2⟩
theorem Rel.toks (r : Rel prog Φ σ imm st s) (tk : Nat) : Rel prog Φ σ imm st { s with toks := tk } := r.grow (fun _ _ e => e) rfl rfl rfl
end

/-! the values -/
section
variable {kn : Addr → Obj → Prop} {σ : List Addr}
theorem VR.int {i : Int} {t : Tok} : VR kn σ (.int i) (.int i t) := by simp only [VR]; exact ⟨t, rfl⟩
theorem VR.bool {b : Bool} : VR kn σ (.bool b) (.bool b) := by simp only [VR]
theorem VR.none : VR kn σ .none .none := by simp only [VR]
theorem VR.bytes {b : Array UInt8} {t : Tok} : VR kn σ (.bytes (KBw.bInts b)) (.bytes b t) := by simp only [VR]; exact ⟨b, t, rfl, rfl⟩
theorem VR.bytes' {b : Array UInt8} {t : Tok} {ks : List Int} (h : KBw.bInts b = ks) : VR kn σ (.bytes ks) (.bytes b t) := h ▸ VR.bytes
end

/-! operators, as data -/
/-- both ints -/
noncomputable def onI (f : Int → Int → St → R V) (a b : V) (st : St) : R V := match a with
  | .int i => (match b with
    | .int j => f i j st
    | _ => .fail)
  | _ => .fail
noncomputable def addV (a b : V) (st : St) : R V := match a with
  | .int i => (match b with
    | .int j => .ok (.int (i + j)) st
    | _ => .fail)
  | .bytes i => (match b with
    | .bytes j => if i.length + j.length ≤ 16777216 then .ok (.bytes (i ++ j)) st else .fail
    | _ => .fail)
  | .lst i => (match b with
    | .lst j => if i.length + j.length ≤ 1000000 then .ok (.lst (i ++ j)) st else .fail
    | _ => .fail)
  | _ => .fail
noncomputable def mulV (a b : V) (st : St) : R V := match b with
  | .int j => (match a with
    | .int i => if -(2 ^ 64) < j ∧ j < 2 ^ 64 then .ok (.int (i * j)) st else .fail
    | .bytes i => if i.length = 1 ∧ 0 ≤ j ∧ j ≤ 1048576 then .ok (.bytes (List.replicate j.toNat (i.getD 0 0))) st else .fail
    | _ => .fail)
  | _ => .fail
noncomputable def binV (op : Operator) (a b : V) (st : St) : R V := match op with
  | .Add => addV a b st
  | .Sub => onI (fun a b st => .ok (.int (a - b)) st) a b st
  | .Mult => mulV a b st
  | .FloorDiv => onI (fun a b st => if 0 < b ∧ b < 1073741824 then .ok (.int (a / b)) st else .fail) a b st
  | .Mod => onI (fun a b st => if 0 < b then .ok (.int (a % b)) st else .fail) a b st
  | .LShift => onI (fun a n st => if 0 ≤ n ∧ n ≤ 1000 ∧ a.natAbs < 2 ^ 64 then .ok (.int (a * 2 ^ n.toNat)) st else .fail) a b st
  | .RShift => onI (fun a n st => if 0 ≤ n then .ok (.int (a / 2 ^ n.toNat)) st else .fail) a b st
  | .Pow => onI (fun a n st => if a = 2 ∧ 0 ≤ n ∧ n ≤ 1000 then .ok (.int (2 ^ n.toNat)) st else .fail) a b st
  | .BitAnd => onI (fun a b st => if b = 1 then .ok (.int (a % 2)) st else .fail) a b st
  | _ => .fail

theorem pow2_pos (n : Nat) : (0 : Int) < 2 ^ n := Int.pow_pos (by decide)
theorem bInts_mul {c : UInt8} (n : Nat) : KBw.bInts ((List.replicate n [c]).flatten).toArray = List.replicate n (c.toNat : Int) := by
  rw [KBw.ints_list]
  induction n with
  | zero => rfl
  | succ n ih => rw [List.replicate_succ, List.flatten_cons, List.replicate_succ]; simp
theorem bInts_one {b : Array UInt8} (h : (KBw.bInts b).length = 1) : ∃ c : UInt8, b = [c].toArray := by
  rw [KBw.ints_length] at h
  obtain ⟨l⟩ := b
  match l, h with
  | [c], _ => exact ⟨c, rfl⟩

section
variable {prog : Program} {Φ : Act} {σ : List Addr} {imm : List (Addr × Obj)} {st : St} {s : Shared}
/-- an int is made -/
theorem Rel.mkI (r : Rel prog Φ σ imm st s) (i : Int) (t : Tok) (tk : Nat) :
    ∃ σ' imm', σ <+: σ' ∧ ImmLe imm imm' ∧ Rel prog Φ σ' imm' st { s with toks := tk } ∧ VR (kno imm' Φ.Hk) σ' (.int i) (.int i t) :=
  ⟨σ, imm, List.prefix_refl _, .refl _, r.toks tk, .int⟩
theorem Rel.give (r : Rel prog Φ σ imm st s) {v : V} {x : Value} (tk : Nat) (h : VR (kno imm Φ.Hk) σ v x) :
    ∃ σ' imm', σ <+: σ' ∧ ImmLe imm imm' ∧ Rel prog Φ σ' imm' st { s with toks := tk } ∧ VR (kno imm' Φ.Hk) σ' v x :=
  ⟨σ, imm, List.prefix_refl _, .refl _, r.toks tk, h⟩
theorem Rel.here (r : Rel prog Φ σ imm st s) {β α : Type} {ρ : VRel β α} {b : β} {a : α} (h : ρ (kno imm Φ.Hk) σ b a) :
    ∃ σ' imm', σ <+: σ' ∧ ImmLe imm imm' ∧ Rel prog Φ σ' imm' st s ∧ ρ (kno imm' Φ.Hk) σ' b a :=
  ⟨σ, imm, List.prefix_refl _, .refl _, r, h⟩
theorem ite_ne {α : Type} {c : Prop} [Decidable c] {a b : R α} (h : (if c then a else b) ≠ b) : c := by
  by_cases hc : c
  · exact hc
  · rw [if_neg hc] at h; exact absurd rfl h

theorem snd_onI {op : Operator} {a b : V} {x y : Value} {f : Int → Int → St → R V} (h : ∀ i t j u, Snd prog Φ VR (binaryOp op (.int i t) (.int j u)) (f i j st) σ imm s) (ha : VR (kno imm Φ.Hk) σ a x) (hb : VR (kno imm Φ.Hk) σ b y) :
    Snd prog Φ VR (binaryOp op x y) (onI f a b st) σ imm s := by
  unfold onI
  cases a with
  | int i =>
    cases b with
    | int j =>
      simp only [VR] at ha hb
      obtain ⟨t, rfl⟩ := ha
      obtain ⟨u, rfl⟩ := hb
      exact h i t j u
    | _ => exact Snd.fail
  | _ => exact Snd.fail
theorem snd_addB (r : Rel prog Φ σ imm st s) {i j : List Int} {x y : Value} (ha : VR (kno imm Φ.Hk) σ (.bytes i) x) (hb : VR (kno imm Φ.Hk) σ (.bytes j) y) (hc : i.length + j.length ≤ 16777216) : Snd prog Φ VR (binaryOp .Add x y) (.ok (.bytes (i ++ j)) st) σ imm s := by
  simp only [VR] at ha hb
  obtain ⟨b1, t, rfl, rfl⟩ := ha
  obtain ⟨b2, u, rfl, rfl⟩ := hb
  rw [KBw.ints_length, KBw.ints_length] at hc
  exact Snd.leaf rfl (KBy.add_bytes hc fun t' k => r.give _ (.bytes' (KBw.ints_app rfl rfl)))
theorem snd_addL (r : Rel prog Φ σ imm st s) {i j : List V} {x y : Value} (ha : VR (kno imm Φ.Hk) σ (.lst i) x) (hb : VR (kno imm Φ.Hk) σ (.lst j) y) (hc : i.length + j.length ≤ 1000000) : Snd prog Φ VR (binaryOp .Add x y) (.ok (.lst (i ++ j)) st) σ imm s := by
  simp only [VR] at ha hb
  obtain ⟨a1, o1, n1, v1, rfl, k1, c1, d1, r1⟩ := ha
  obtain ⟨a2, o2, n2, v2, rfl, k2, c2, d2, r2⟩ := hb
  obtain ⟨m, F, hm⟩ := r.fr
  refine Snd.leaf rfl (add_arrays F r.news ⟨o1, r.known k1, c1, n1, d1⟩ ⟨o2, r.known k2, c2, n2, d2⟩ (fun h' F' N' => ?_) ?_)
  · have r' := r.growF F' hm N' (fun p hp => List.mem_cons_of_mem _ hp) s.toks
    obtain ⟨q1, q2, q3, _, q5⟩ := r.free (get_size s.heap)
    have r'' := r'.addImm (N' _ (List.mem_cons_self)).1 q1 q2 q3 fun q hq => Ne.symm (q5 q hq)
    refine ⟨σ, _, List.prefix_refl _, .of_sub fun p hp => List.mem_append_left _ hp, r'', ?_⟩
    simp only [VR]
    refine ⟨_, _, 0, v1 ++ v2, rfl, .inl (List.mem_append_right _ (List.mem_singleton.mpr rfl)), rfl, by simp, ?_⟩
    have hk : KnLe (kno imm Φ.Hk) (kno (imm ++ [(s.heap.objs.size, ({ cls := .type "list", data := .seq (v1.toArray.toList ++ v2.toArray.toList).toArray } : Obj))]) Φ.Hk) := kno.le fun p hp => List.mem_append_left _ hp
    exact (r1.mono hk (List.prefix_refl _)).append (r2.mono hk (List.prefix_refl _))
  · rw [List.size_toArray, List.size_toArray, r1.length, r2.length, sizeLine_eq]; lia
theorem snd_addV (r : Rel prog Φ σ imm st s) {a b : V} {x y : Value} (ha : VR (kno imm Φ.Hk) σ a x) (hb : VR (kno imm Φ.Hk) σ b y) : Snd prog Φ VR (binaryOp .Add x y) (addV a b st) σ imm s := by
  unfold addV
  cases a with
  | int i =>
    cases b with
    | int j =>
      simp only [VR] at ha hb
      obtain ⟨t, rfl⟩ := ha
      obtain ⟨u, rfl⟩ := hb
      exact Snd.leaf rfl (add_int (r.mkI _ _ _))
    | _ => exact Snd.fail
  | bytes i =>
    cases b with
    | bytes j => exact Snd.ite fun hc => snd_addB r ha hb hc
    | _ => exact Snd.fail
  | lst i =>
    cases b with
    | lst j => exact Snd.ite fun hc => snd_addL r ha hb hc
    | _ => exact Snd.fail
  | _ => exact Snd.fail
theorem snd_mulV (r : Rel prog Φ σ imm st s) {a b : V} {x y : Value} (ha : VR (kno imm Φ.Hk) σ a x) (hb : VR (kno imm Φ.Hk) σ b y) : Snd prog Φ VR (binaryOp .Mult x y) (mulV a b st) σ imm s := by
  unfold mulV
  cases b with
  | int j =>
    cases a with
    | int i =>
      simp only [VR] at ha hb
      obtain ⟨t, rfl⟩ := ha
      obtain ⟨u, rfl⟩ := hb
      exact Snd.ite fun hc => Snd.leaf rfl (mul_int (r.mkI _ _ _) (IntMulOk.of_right (intBits_le_64 hc.1 hc.2)))
    | bytes i =>
      simp only [VR] at ha hb
      obtain ⟨b1, t, rfl, rfl⟩ := ha
      obtain ⟨u, rfl⟩ := hb
      refine Snd.ite fun hc => ?_
      obtain ⟨h1, h2, h3⟩ := hc
      obtain ⟨c, rfl⟩ := bInts_one h1
      exact Snd.leaf rfl (bytes_mul_any (by simp) (by lia) h3 (by simp) fun t' k => r.give _ (.bytes' (bInts_mul _)))
    | _ => exact Snd.fail
  | _ => exact Snd.fail
theorem snd_binV (r : Rel prog Φ σ imm st s) {op : Operator} {a b : V} {x y : Value} (ha : VR (kno imm Φ.Hk) σ a x) (hb : VR (kno imm Φ.Hk) σ b y) :
    Snd prog Φ VR (binaryOp op x y) (binV op a b st) σ imm s := by
  unfold binV
  cases op with
  | Add => exact snd_addV r ha hb
  | Sub => exact snd_onI (fun i t j u => Snd.leaf rfl (sub_int (r.mkI _ _ _))) ha hb
  | Mult => exact snd_mulV r ha hb
  | FloorDiv =>
    refine snd_onI (fun i t j u => Snd.ite fun hc => Snd.leaf rfl (floordiv_int (by lia) ?_ (Or.inl (PyProof.noPylong_small (by lia))))) ha hb
    rw [Int.fdiv_eq_ediv_of_nonneg _ (by lia)]
    exact r.mkI _ _ _
  | Mod =>
    refine snd_onI (fun i t j u => Snd.ite fun hc => Snd.leaf rfl (mod_int' (by lia) ?_)) ha hb
    rw [Int.fmod_eq_emod_of_nonneg _ (by lia)]
    exact r.mkI _ _ _
  | LShift => exact snd_onI (fun i t j u => Snd.ite fun hc => Snd.leaf rfl (lshift_int_small hc.1 (by lia) hc.2.2 (r.mkI _ _ _))) ha hb
  | RShift =>
    refine snd_onI (fun i t j u => Snd.ite fun hc => Snd.leaf rfl (rshift_int hc ?_)) ha hb
    rw [Int.fdiv_eq_ediv_of_nonneg _ (Int.le_of_lt (pow2_pos _))]
    exact r.mkI _ _ _
  | Pow =>
    refine snd_onI (fun i t j u => Snd.ite fun hc => ?_) ha hb
    obtain ⟨rfl, h1, h2⟩ := hc
    refine Snd.leaf rfl (pow_int h1 ?_ (r.mkI _ _ _))
    have e : Builtin.Int.intBits 2 = 2 := by decide +kernel
    rw [e]; lia
  | BitAnd =>
    refine snd_onI (fun i t j u => Snd.ite fun hc => ?_) ha hb
    subst hc
    refine Snd.leaf rfl (and_int ?_)
    have e : Builtin.bitAnd i 1 = i % 2 := by have := kbt_mask i 1; simpa using this
    rw [e]
    exact r.mkI _ _ _
  | _ => exact Snd.fail
end
end Mine
end
section
/-! text F6 -/
open PySem PySem.W PyProof.Rows
set_option Elab.async false
set_option autoImplicit false
set_option linter.unusedVariables false
namespace Mine
open Sem (wp)

/-! comparisons, as data -/
noncomputable def ordV (f : Int → Int → Bool) (a b : V) (st : St) : R V := match a with
  | .int i => (match b with
    | .int j => .ok (.bool (f i j)) st
    | _ => .fail)
  | _ => .fail
noncomputable def eqV (a b : V) (st : St) : R V := match a with
  | .int i => (match b with
    | .int j => .ok (.bool (i == j)) st
    | _ => .fail)
  | .bytes i => (match b with
    | .bytes j => .ok (.bool (i == j)) st
    | _ => .fail)
  | .none => (match b with
    | .none => .ok (.bool true) st
    | _ => .fail)
  | _ => .fail
noncomputable def neV (a b : V) (st : St) : R V := match a with
  | .int i => (match b with
    | .int j => .ok (.bool (i != j)) st
    | _ => .fail)
  | .bytes i => (match b with
    | .bytes j => .ok (.bool (i != j)) st
    | _ => .fail)
  | _ => .fail
noncomputable def isV (a b : V) (st : St) : R V := match b with
  | .none => (match a with
    | .none => .ok (.bool true) st
    | .int _ => .ok (.bool false) st
    | _ => .fail)
  | _ => .fail
noncomputable def isNotV (a b : V) (st : St) : R V := match b with
  | .none => (match a with
    | .none => .ok (.bool false) st
    | .bytes _ => .ok (.bool true) st
    | _ => .fail)
  | _ => .fail
noncomputable def cmpV (op : CmpOp) (a b : V) (st : St) : R V := match op with
  | .Eq => eqV a b st
  | .NotEq => neV a b st
  | .Lt => ordV (fun a b => decide (a < b)) a b st
  | .LtE => ordV (fun a b => decide (a ≤ b)) a b st
  | .Gt => ordV (fun a b => decide (b < a)) a b st
  | .GtE => ordV (fun a b => decide (b ≤ a)) a b st
  | .Is => isV a b st
  | .IsNot => isNotV a b st
  | _ => .fail

theorem bInts_inj {b c : Array UInt8} : (b.toList == c.toList) = (KBw.bInts b == KBw.bInts c) := by
  have key : ∀ l m : List UInt8, (l.map fun c => (c.toNat : Int)) = (m.map fun c => (c.toNat : Int)) → l = m := by
    intro l
    induction l with
    | nil => intro m h; cases m with
      | nil => rfl
      | cons _ _ => simp at h
    | cons x l ih => intro m h; cases m with
      | nil => simp at h
      | cons y m =>
        simp only [List.map_cons, List.cons.injEq] at h
        have e : x = y := UInt8.toNat_inj.mp (by lia)
        rw [e, ih m h.2]
  rw [Bool.eq_iff_iff, beq_iff_eq, beq_iff_eq]
  exact ⟨fun e => by unfold KBw.bInts; rw [e], fun e => key _ _ e⟩

section
variable {prog : Program} {Φ : Act} {σ : List Addr} {imm : List (Addr × Obj)} {st : St} {s : Shared}
theorem snd_ordV {op : CmpOp} {a b : V} {x y : Value} {f : Int → Int → Bool} (h : ∀ i t j u, Snd prog Φ VR (compareOp op (.int i t) (.int j u)) (.ok (.bool (f i j)) st) σ imm s) (ha : VR (kno imm Φ.Hk) σ a x) (hb : VR (kno imm Φ.Hk) σ b y) :
    Snd prog Φ VR (compareOp op x y) (ordV f a b st) σ imm s := by
  unfold ordV
  cases a with
  | int i =>
    cases b with
    | int j =>
      simp only [VR] at ha hb
      obtain ⟨t, rfl⟩ := ha
      obtain ⟨u, rfl⟩ := hb
      exact h i t j u
    | _ => exact Snd.fail
  | _ => exact Snd.fail
theorem snd_eqV (r : Rel prog Φ σ imm st s) {a b : V} {x y : Value} (ha : VR (kno imm Φ.Hk) σ a x) (hb : VR (kno imm Φ.Hk) σ b y) : Snd prog Φ VR (compareOp .Eq x y) (eqV a b st) σ imm s := by
  unfold eqV
  cases a with
  | int i =>
    cases b with
    | int j => simp only [VR] at ha hb; obtain ⟨t, rfl⟩ := ha; obtain ⟨u, rfl⟩ := hb; exact Snd.leaf rfl (eq_int (r.here .bool))
    | _ => exact Snd.fail
  | bytes i =>
    cases b with
    | bytes j =>
      simp only [VR] at ha hb; obtain ⟨c, t, rfl, rfl⟩ := ha; obtain ⟨d, u, rfl, rfl⟩ := hb
      dsimp only
      rw [← bInts_inj]
      exact Snd.leaf rfl (eq_bytes (r.here .bool))
    | _ => exact Snd.fail
  | none =>
    cases b with
    | none => simp only [VR] at ha hb; subst ha; subst hb; exact Snd.leaf rfl (EqNone.eq_none_none (r.here .bool))
    | _ => exact Snd.fail
  | _ => exact Snd.fail
theorem snd_neV (r : Rel prog Φ σ imm st s) {a b : V} {x y : Value} (ha : VR (kno imm Φ.Hk) σ a x) (hb : VR (kno imm Φ.Hk) σ b y) : Snd prog Φ VR (compareOp .NotEq x y) (neV a b st) σ imm s := by
  unfold neV
  cases a with
  | int i =>
    cases b with
    | int j => simp only [VR] at ha hb; obtain ⟨t, rfl⟩ := ha; obtain ⟨u, rfl⟩ := hb; exact Snd.leaf rfl (ne_int (r.here .bool))
    | _ => exact Snd.fail
  | bytes i =>
    cases b with
    | bytes j =>
      simp only [VR] at ha hb; obtain ⟨c, t, rfl, rfl⟩ := ha; obtain ⟨d, u, rfl, rfl⟩ := hb
      have e : (KBw.bInts c != KBw.bInts d) = (c.toList != d.toList) := by unfold bne; rw [bInts_inj]
      dsimp only
      rw [e]
      exact Snd.leaf rfl (ne_bytes (r.here .bool))
    | _ => exact Snd.fail
  | _ => exact Snd.fail
theorem snd_isV (r : Rel prog Φ σ imm st s) {a b : V} {x y : Value} (ha : VR (kno imm Φ.Hk) σ a x) (hb : VR (kno imm Φ.Hk) σ b y) : Snd prog Φ VR (compareOp .Is x y) (isV a b st) σ imm s := by
  unfold isV
  cases b with
  | none =>
    cases a with
    | none => simp only [VR] at ha hb; subst ha; subst hb; exact Snd.leaf rfl (wpAny_is_self rfl (r.here .bool))
    | int i => simp only [VR] at ha hb; obtain ⟨t, rfl⟩ := ha; subst hb; exact Snd.leaf rfl (wpAny_is_other rfl nofun (r.here .bool))
    | _ => exact Snd.fail
  | _ => exact Snd.fail
theorem snd_isNotV (r : Rel prog Φ σ imm st s) {a b : V} {x y : Value} (ha : VR (kno imm Φ.Hk) σ a x) (hb : VR (kno imm Φ.Hk) σ b y) : Snd prog Φ VR (compareOp .IsNot x y) (isNotV a b st) σ imm s := by
  unfold isNotV
  cases b with
  | none =>
    cases a with
    | none => simp only [VR] at ha hb; subst ha; subst hb; exact Snd.leaf rfl (wpAny_isNot_self rfl (r.here .bool))
    | bytes i => simp only [VR] at ha hb; obtain ⟨c, t, rfl, h⟩ := ha; subst hb; exact Snd.leaf rfl (wpAny_isNot_other rfl nofun (r.here .bool))
    | _ => exact Snd.fail
  | _ => exact Snd.fail
theorem snd_cmpV (r : Rel prog Φ σ imm st s) {op : CmpOp} {a b : V} {x y : Value} (ha : VR (kno imm Φ.Hk) σ a x) (hb : VR (kno imm Φ.Hk) σ b y) :
    Snd prog Φ VR (compareOp op x y) (cmpV op a b st) σ imm s := by
  unfold cmpV
  cases op with
  | Eq => exact snd_eqV r ha hb
  | NotEq => exact snd_neV r ha hb
  | Lt => exact snd_ordV (fun i t j u => Snd.leaf rfl (lt_int (r.here .bool))) ha hb
  | LtE => exact snd_ordV (fun i t j u => Snd.leaf rfl (le_int (r.here .bool))) ha hb
  | Gt => exact snd_ordV (fun i t j u => Snd.leaf rfl (gt_int (r.here .bool))) ha hb
  | GtE => exact snd_ordV (fun i t j u => Snd.leaf rfl (ge_int (r.here .bool))) ha hb
  | Is => exact snd_isV r ha hb
  | IsNot => exact snd_isNotV r ha hb
  | _ => exact Snd.fail
end

/-! expressions -/
abbrev Mo (β : Type) := St → R β
/-- an expression and what it yields -/
noncomputable def SE (prog : Program) (Φ : Act) (e : Expr) (d : Mo V) : Prop :=
  ∀ σ imm st s, Rel prog Φ σ imm st s → Snd prog Φ VR (eval e Φ.env) (d st) σ imm s
/-- a test -/
noncomputable def ST (prog : Program) (Φ : Act) (e : Expr) (d : Mo Bool) : Prop :=
  ∀ σ imm st s, Rel prog Φ σ imm st s → Snd prog Φ (fun _ _ b c => b = c) (isTrue e Φ.env (eval e Φ.env)) (d st) σ imm s
noncomputable def SEs (prog : Program) (Φ : Act) (es : List (Bool × Sem Value)) (d : Mo (List V)) : Prop :=
  ∀ σ imm st s, Rel prog Φ σ imm st s → Snd prog Φ VRs (spliced es) (d st) σ imm s

noncomputable def mInt (i : Int) : Mo V := fun st => .ok (.int i) st
noncomputable def mV (v : V) : Mo V := fun st => .ok v st
noncomputable def mLoc (i : Nat) : Mo V := fun st => match st.loc[i]? with
  | some (some v) => .ok v st
  | _ => .fail
noncomputable def mBin (op : Operator) (a b : Mo V) : Mo V := fun st => (a st).bind fun x st => (b st).bind fun y st => binV op x y st
noncomputable def mCmp (op : CmpOp) (a b : Mo V) : Mo V := fun st => (a st).bind fun x st => (b st).bind fun y st => cmpV op x y st
noncomputable def truthV : V → St → R Bool
  | .bool b, st => .ok b st
  | _, _ => .fail
noncomputable def mTruth (a : Mo V) : Mo Bool := fun st => (a st).bind truthV
noncomputable def mNot (a : Mo Bool) : Mo Bool := fun st => (a st).bind fun b st => .ok (!b) st
noncomputable def mAnd (a b : Mo Bool) : Mo Bool := fun st => (a st).bind fun x st => if x = true then b st else .ok false st
noncomputable def mOr (a b : Mo Bool) : Mo Bool := fun st => (a st).bind fun x st => if x = true then .ok true st else b st
noncomputable def mIf {β : Type} (t : Mo Bool) (a b : Mo β) : Mo β := fun st => (t st).bind fun x st => if x = true then a st else b st
noncomputable def mNeg (a : Mo V) : Mo V := fun st => (a st).bind fun x st => match x with
  | .int i => .ok (.int (-i)) st
  | _ => .fail
noncomputable def mNil : Mo (List V) := fun st => .ok [] st
noncomputable def mCons (a : Mo V) (b : Mo (List V)) : Mo (List V) := fun st => (a st).bind fun x st => (b st).bind fun xs st => .ok (x :: xs) st

section
variable {prog : Program} {Φ : Act}
theorem SE_int {i : Int} {k : Nat} {pos : Pos} : SE prog Φ (.Constant (.int i) k pos) (mInt i) := fun σ imm st s r =>
  Snd.leaf rfl (wpAny_Constant_int (r.mkI _ _ _))
theorem SE_none {k : Nat} {pos : Pos} : SE prog Φ (.Constant .none k pos) (mV .none) := fun σ imm st s r =>
  Snd.leaf rfl (wpAny_Constant_none (r.here .none))
theorem SE_bool {b : Bool} {k : Nat} {pos : Pos} : SE prog Φ (.Constant (.bool b) k pos) (mV (.bool b)) := fun σ imm st s r =>
  Snd.leaf rfl (wpAny_Constant_bool (r.here .bool))
theorem SE_bytes {x : List UInt8} {k : Nat} {pos : Pos} : SE prog Φ (.Constant (.bytes x) k pos) (mV (.bytes (x.map fun c => (c.toNat : Int)))) := fun σ imm st s r =>
  Snd.leaf rfl (Constant_bytes (r.give _ (.bytes' (KBw.ints_list _))))
/-- a local -/
theorem SE_loc {i : Nat} {x : Str} {pos : Pos} (hx : Φ.names[i]? = some x) (hk : Φ.env.scope.kind = .function) (hl : Φ.env.kindOf x = some .local) (hL : Φ.env.locals = Φ.L)
    (hd : (x == ("__debug__" : Str)) = false) : SE prog Φ (.Name x pos) (mLoc i) := fun σ imm st s r => by
  unfold mLoc
  split
  · rename_i v hv
    obtain ⟨m, h1, h2⟩ := r.loc
    obtain ⟨val, h3, h4⟩ := h2 i x v hx hv
    exact Snd.leaf rfl (wpAny_Name (wpAny_loadName_local hk hl (hL ▸ h1) h3 (r.here h4)) hd)
  · exact Snd.fail
theorem snd2 {σ : List Addr} {imm : List (Addr × Obj)} {st : St} {s : Shared} {α β : Type} {ρ : VRel β α} {l e : Expr} {dl dr : Mo V} {f : V → V → St → R β} {g : Value → Value → Sem α} (r : Rel prog Φ σ imm st s)
    (hl : SE prog Φ l dl) (hr : SE prog Φ e dr) {t : Value → Sem Value} (ht : ∀ a, ∀ {σ imm s d}, Snd prog Φ VR (eval e Φ.env) d σ imm s → Snd prog Φ VR (t a) d σ imm s)
    (h : ∀ {σ imm st s a b x y}, Rel prog Φ σ imm st s → VR (kno imm Φ.Hk) σ a x → VR (kno imm Φ.Hk) σ b y → Snd prog Φ ρ (g x y) (f a b st) σ imm s) :
    Snd prog Φ ρ (do let a ← eval l Φ.env; let b ← t a; g a b) ((dl st).bind fun x st => (dr st).bind fun y st => f x y st) σ imm s := by
  refine Snd.bind (hl _ _ _ _ r) fun v st' σ' imm' x s' _ hp hi r' hv => ?_
  refine Snd.bind (ht _ (hr _ _ _ _ r')) fun v2 st2 σ2 imm2 y s2 _ hp2 hi2 r2 hv2 => ?_
  exact h r2 (hv.mono (kno.leI hi2) hp2) hv2
theorem SE_bin {op : Operator} {l e : Expr} {dl dr : Mo V} {pos : Pos} (hl : SE prog Φ l dl) (hr : SE prog Φ e dr) : SE prog Φ (.BinOp l op e pos) (mBin op dl dr) := fun σ imm st s r => by
  rw [eval_BinOp]
  exact snd2 r hl hr (fun _ {_ _ _ _} h => Snd.holding h) fun r' ha hb => Snd.stand (Snd.operate (snd_binV r' ha hb))
theorem SE_cmp {op : CmpOp} {l e : Expr} {dl dr : Mo V} {pos : Pos} (hl : SE prog Φ l dl) (hr : SE prog Φ e dr) (hm : behindInMarks op e = false) : SE prog Φ (.Compare l [op] [e] pos) (mCmp op dl dr) := fun σ imm st s r => by
  rw [eval_Compare1, markedBehindIn_of_false hm]
  exact snd2 r hl hr (fun _ {_ _ _ _} h => Snd.holding h) fun r' ha hb => Snd.stand (Snd.operate (snd_cmpV r' ha hb))
theorem snd_truth {σ : List Addr} {imm : List (Addr × Obj)} {st : St} {s : Shared} {v : V} {x : Value} (r : Rel prog Φ σ imm st s) (h : VR (kno imm Φ.Hk) σ v x) :
    Snd prog Φ (fun _ _ b c => b = c) (truthy x) (truthV v st) σ imm s := by
  unfold truthV
  split
  · simp only [VR] at h; subst h
    exact Snd.leaf rfl (wpAny_truthy_bool ⟨σ, imm, List.prefix_refl _, .refl _, r, rfl⟩)
  · exact Snd.fail
theorem ST_cmp {op : CmpOp} {l e : Expr} {dl dr : Mo V} {pos : Pos} (hl : SE prog Φ l dl) (hr : SE prog Φ e dr) (hm : behindInMarks op e = false) : ST prog Φ (.Compare l [op] [e] pos) (mTruth (mCmp op dl dr)) := fun σ imm st s r => by
  rw [isTrue_Compare1, markedBehindIn_of_false hm]
  have e1 : mTruth (mCmp op dl dr) st = ((dl st).bind fun x st => (dr st).bind fun y st => (cmpV op x y st).bind truthV) := by
    unfold mTruth mCmp
    cases dl st with
    | ok v st1 => simp only [R.bind]; cases dr st1 <;> rfl
    | exc => rfl
    | fail => rfl
  rw [e1]
  refine snd2 r hl hr (fun _ {_ _ _ _} h => Snd.holding h) fun r' ha hb => Snd.stand (Snd.bind (Snd.operate (snd_cmpV r' ha hb)) fun v st' σ' imm' x s' _ _ _ r'' hv => Snd.holding (snd_truth r'' hv))
/-- a test that is any other expression -/
theorem ST_val {e : Expr} {d : Mo V} (h : SE prog Φ e d) (he : ∀ whole, isTrue e Φ.env whole = (do let v ← whole; standAt e.pos; PySem.holding [v] (truthy v))) : ST prog Φ e (mTruth d) := fun σ imm st s r => by
  rw [he]
  exact Snd.bind (h _ _ _ _ r) fun v st' σ' imm' x s' _ _ _ r' hv => Snd.stand (Snd.holding (snd_truth r' hv))
theorem ST_not {e : Expr} {d : Mo Bool} {pos : Pos} (h : ST prog Φ e d) : ST prog Φ (.UnaryOp .Not e pos) (mNot d) := fun σ imm st s r => by
  show Snd prog Φ _ (do return !(← isTrue e Φ.env (eval e Φ.env))) _ σ imm s
  exact Snd.bind (h _ _ _ _ r) fun b st' σ' imm' c s' _ _ _ r' hb => Snd.pure r' (by rw [hb])
theorem SE_if {t a b : Expr} {dt : Mo Bool} {da db : Mo V} {pos : Pos} (ht : ST prog Φ t dt) (ha : SE prog Φ a da) (hb : SE prog Φ b db) : SE prog Φ (.IfExp t a b pos) (mIf dt da db) := fun σ imm st s r => by
  rw [eval_IfExp]
  refine Snd.bind (ht _ _ _ _ r) fun x st' σ' imm' c s' _ _ _ r' hx => ?_
  subst hx
  cases x
  · exact hb _ _ _ _ r'
  · exact ha _ _ _ _ r'
theorem SE_neg {e : Expr} {d : Mo V} {pos : Pos} (h : SE prog Φ e d) : SE prog Φ (.UnaryOp .USub e pos) (mNeg d) := fun σ imm st s r => by
  show Snd prog Φ _ (do let v ← eval e Φ.env; standAt pos; PySem.holding [v] (unaryOp .USub v)) _ σ imm s
  refine Snd.bind (h _ _ _ _ r) fun v st' σ' imm' x s' _ _ _ r' hv => Snd.stand (Snd.holding ?_)
  split
  · simp only [VR] at hv; obtain ⟨t, rfl⟩ := hv
    exact Snd.leaf rfl (neg_int (r'.mkI _ _ _))
  · exact Snd.fail
/-- and, or, of tests -/
noncomputable def STs (prog : Program) (Φ : Act) (op : BoolOp) (es : List Expr) (d : Mo Bool) : Prop :=
  ∀ σ imm st s, Rel prog Φ σ imm st s → Snd prog Φ (fun _ _ b c => b = c) (allTrue op es Φ.env) (d st) σ imm s
theorem STs_nil {op : BoolOp} : STs prog Φ op [] (fun st => .ok (op == .And) st) := fun σ imm st s r => Snd.pure r rfl
theorem STs_and {e : Expr} {es : List Expr} {d ds : Mo Bool} (h : ST prog Φ e d) (hs : STs prog Φ .And es ds) : STs prog Φ .And (e :: es) (mAnd d ds) := fun σ imm st s r => by
  show Snd prog Φ _ (do match BoolOp.And, ← isTrue e Φ.env (eval e Φ.env) with | .And, false => pure false | .Or, true => pure true | _, _ => allTrue .And es Φ.env) _ σ imm s
  refine Snd.bind (h _ _ _ _ r) fun x st' σ' imm' c s' _ _ _ r' hx => ?_
  subst hx
  cases x
  · exact Snd.pure r' rfl
  · exact hs _ _ _ _ r'
theorem STs_or {e : Expr} {es : List Expr} {d ds : Mo Bool} (h : ST prog Φ e d) (hs : STs prog Φ .Or es ds) : STs prog Φ .Or (e :: es) (mOr d ds) := fun σ imm st s r => by
  show Snd prog Φ _ (do match BoolOp.Or, ← isTrue e Φ.env (eval e Φ.env) with | .And, false => pure false | .Or, true => pure true | _, _ => allTrue .Or es Φ.env) _ σ imm s
  refine Snd.bind (h _ _ _ _ r) fun x st' σ' imm' c s' _ _ _ r' hx => ?_
  subst hx
  cases x
  · exact hs _ _ _ _ r'
  · exact Snd.pure r' rfl
theorem ST_bool {op : BoolOp} {es : List Expr} {d : Mo Bool} {pos : Pos} (h : STs prog Φ op es d) : ST prog Φ (.BoolOp op es pos) d := fun σ imm st s r => by
  rw [show isTrue (.BoolOp op es pos) Φ.env (eval (.BoolOp op es pos) Φ.env) = allTrue op es Φ.env from rfl]
  exact h _ _ _ _ r
/-- arguments, items of a display -/
theorem SEs_nil : SEs prog Φ [] mNil := fun σ imm st s r => Snd.pure r (by simp only [VRs])
theorem SEs_cons {t : Sem Value} {es : List (Bool × Sem Value)} {d : Mo V} {ds : Mo (List V)} (h : ∀ σ imm st s, Rel prog Φ σ imm st s → Snd prog Φ VR t (d st) σ imm s) (hs : SEs prog Φ es ds) :
    SEs prog Φ ((false, t) :: es) (mCons d ds) := fun σ imm st s r => by
  show Snd prog Φ _ (do let v ← t; let here ← (pure [v] : Sem (List Value)); return here ++ (← PySem.holding here (spliced es))) _ σ imm s
  refine Snd.bind (h _ _ _ _ r) fun v st' σ' imm' x s' _ _ _ r' hv => ?_
  rw [pure_bind]
  refine Snd.bind (Snd.holding (hs _ _ _ _ r')) fun vs st2 σ2 imm2 xs s2 _ hp hi r2 hvs => Snd.pure r2 ?_
  simp only [List.singleton_append, VRs]
  exact ⟨x, xs, rfl, hv.mono (kno.leI hi) hp, hvs⟩
end
end Mine
end
section
/-! text F7 -/
open PySem PySem.W PyProof.Rows
set_option Elab.async false
set_option autoImplicit false
set_option linter.unusedVariables false
set_option genSizeOf false
set_option genInjectivity false
namespace Mine
open Sem (wp)

/-- what an activation stands upon; lv: how many calls deep it may still go -/
structure Ok (prog : Program) (Φ : Act) (lv : Nat) : Prop where
  hh : Φ.A.handled = none
  fr : Φ.A.frames = some Φ.stk
  lk : ∀ e ∈ Φ.stk, e.scope.kind ≠ .module ∧ ∃ a, e.frame = some a ∧ (a = Φ.L ∨ ∃ m, (a, m) ∈ Φ.outs)
  dep : Φ.A.depth + 10 * lv + 10 < recursionLimit
  un : Φ.A.units + 100 * lv + 100 < cLine
  kind : Φ.env.scope.kind = .function
  locals : Φ.env.locals = Φ.L
  globals : Φ.env.globals = mainGlobals
  builtins : Φ.env.builtins = builtinsNs
  nod : Φ.names.Nodup
  X : Φ.K.In Φ.H0
  g : Φ.H0.Ns mainGlobals Φ.mg
  b : Φ.H0.Ns builtinsNs Φ.mb
  lim : Φ.H0.NoLimit
  bi : ∀ x : Str, x ≠ "__name__" → Φ.mb x = bootBuiltins x

section
variable {prog : Program} {Φ : Act} {lv : Nat}
/-- a name of the text's top, or a built-in: what it holds -/
noncomputable def SN (prog : Program) (Φ : Act) (e : Expr) (v : Value) : Prop :=
  ∀ σ imm st s, Rel prog Φ σ imm st s → Snd prog Φ (fun _ _ (_ : Unit) x => x = v) (eval e Φ.env) (.ok () st) σ imm s
theorem SN_glob (O : Ok prog Φ lv) {x : Str} {pos : Pos} {v : Value} (e : nsIn Φ.K mainGlobals x = some (some v)) (hx : Φ.env.kindOf x = some .globalImplicit) (hd : (x == ("__debug__" : Str)) = false) :
    SN prog Φ (.Name x pos) v := fun σ imm st s r =>
  Snd.leaf rfl (Calls.Name_function_global O.kind hx (Calls.loadGlobal_global (O.globals ▸ O.g.keeps r.keep) (mg_of O.X O.g e) ⟨σ, imm, List.prefix_refl _, .refl _, r, rfl⟩) hd)
theorem SN_boot (O : Ok prog Φ lv) {x : Str} {pos : Pos} {v : Value} (e : nsIn Φ.K mainGlobals x = some none) (hv : bootBuiltins x = some v) (hn : x ≠ "__name__") (hx : Φ.env.kindOf x = some .globalImplicit)
    (hd : (x == ("__debug__" : Str)) = false) : SN prog Φ (.Name x pos) v := fun σ imm st s r =>
  Snd.leaf rfl (Calls.Name_function_global O.kind hx (Calls.loadGlobal_builtin (O.globals ▸ O.g.keeps r.keep) (mg_none_of O.X O.g e) (O.builtins ▸ O.b.keeps r.keep) ((O.bi x hn).trans hv) ⟨σ, imm, List.prefix_refl _, .refl _, r, rfl⟩) hd)
/-- a constant of the text's top -/
theorem SE_glob (O : Ok prog Φ lv) {x : Str} {pos : Pos} {i : Int} {t : Tok} (e : nsIn Φ.K mainGlobals x = some (some (.int i t))) (hx : Φ.env.kindOf x = some .globalImplicit) (hd : (x == ("__debug__" : Str)) = false) :
    SE prog Φ (.Name x pos) (mInt i) := fun σ imm st s r =>
  Snd.leaf rfl (Calls.Name_function_global O.kind hx (Calls.loadGlobal_global (O.globals ▸ O.g.keeps r.keep) (mg_of O.X O.g e) (r.here .int)) hd)

/-- what may be called -/
inductive Callee (K : Frag) : Value → Prop
  | fn {a : Addr} {o : Obj} {fd : FuncData} : K.lookup a = some o → o.data = .func fd → Callee K (.ref a)
  | bi {id : String} : Callee K (.builtin id)
  | ty {n : String} : Callee K (.type n)

theorem wpC_keep {α : Type} {M : Model} {A : Around} {E : Value → Shared → Prop} {s : Shared} {vs : List Value} {m : Sem α} {Q : α → Shared → Prop} (h : wpC M A m Q E s) : wpC M A (m.keep vs) Q E s :=
  fun Γ p h1 h2 h3 => by rw [Sem.wp_keep]; exact h Γ p h1 h2 h3
theorem wpC_evalArgs {M : Model} {A : Around} {E : Value → Shared → Prop} {s : Shared} {f : Value} {args : List (Bool × Sem Value)} {Q : Args → Shared → Prop} (hp : args.any (·.1) = false)
    (h : wpC M A (spliced args) (fun vs s' => Q ⟨vs, []⟩ s') E s) : wpC M A (evalArgs f true args []) Q E s := by
  have key : evalArgs f true args [] = (do let pos ← spliced args; PySem.holding (pos ++ []) (do let kw ← (do let ks ← evalAll []; pure (([] : List Str).zip ks)); let p ← (pure pos : Sem (List Value)); pure (⟨p, kw⟩ : Args))) := by
    match args, hp with
    | [], _ => rfl
    | [(false, x)], _ => rfl
    | [(true, x)], hp => cases hp
    | (b, x) :: (c, y) :: r, _ => cases b <;> rfl
  rw [key]
  refine wpC_bind (wpC_mono h (fun vs s' h' => wpC_holding ?_) fun _ _ e => e)
  exact wpC_pure h'
theorem wpC_callWith {w : World} {A : Around} {E : Value → Shared → Prop} {s : Shared} {K : Frag} {pos : Pos} {f : Value} {first : List Value} {args : List (Bool × Sem Value)} {Q : Value → Shared → Prop} (hp : args.any (·.1) = false)
    (hc : Callee K f) (h : wpC (model prog w) A (spliced args) (fun vs s' => K.In s'.heap ∧ wpC (model prog w) A (call f (first ++ vs)) Q E s') E s) : wpC (model prog w) A (callWith pos f first args []) Q E s := by
  unfold callWith
  refine wpC_bind (wpC_holding (wpC_evalArgs hp (wpC_mono h (fun vs s' h' => wpC_bind (wpC_standAt ?_)) fun _ _ e => e)))
  obtain ⟨hX, h'⟩ := h'
  have tail : ∀ {t : Sem Value} {s₁}, wpC (model prog w) A t Q E s₁ → wpC (model prog w) A (t >>= fun r => PySem.holding [r] point >>= fun _ => pure r) Q E s₁ :=
    fun ht => wpC_bind (wpC_mono ht (fun r s₂ hr => wpC_bind (wpC_holding (wpC_point (wpC_pure hr)))) fun _ _ x => x)
  simp only [hp, List.any_nil, Bool.or_false]
  cases hc with
  | bi => exact wpC_bind (wpC_pure (tail h'))
  | ty => exact wpC_bind (wpC_pure (tail h'))
  | fn ho hd =>
    refine wpC_bind (m := keeperOf (.ref _)) ?_
    unfold keeperOf
    refine wpC_bind (wpC_of (wpAny_load (hX _ _ ho) ?_))
    rw [hd]
    refine wpC_pure ?_
    dsimp only
    split
    · exact tail h'
    · exact tail (wpC_keep h')
/-- a call of something by its name -/
theorem SE_call (O : Ok prog Φ lv) {f : Expr} {fv : Value} {args : List Expr} {pos : Pos} {ds : Mo (List V)} {F : List V → Mo V} (hf : SN prog Φ f fv) (hc : Callee Φ.K fv)
    (ha : SEs prog Φ (backTo pos (starEach args Φ.env)) ds) (hp : (backTo pos (starEach args Φ.env)).any (·.1) = false)
    (h : ∀ σ imm st s vs xs, Rel prog Φ σ imm st s → VRs (kno imm Φ.Hk) σ vs xs → Snd prog Φ VR (call fv xs) (F vs st) σ imm s)
    (he : eval (.Call f args [] pos) Φ.env = (do callWith pos (← eval f Φ.env) [] (backTo pos (starEach args Φ.env)) [])) :
    SE prog Φ (.Call f args [] pos) (fun st => (ds st).bind fun vs st => F vs st) := fun σ imm st s r => by
  rw [he]
  refine (Snd.bind (hf _ _ _ _ r) (g := fun _ st => (ds st).bind fun vs st => F vs st) fun _ st' σ' imm' x s' e hp1 hi1 r' hx => ?_)
  subst hx
  intro hne
  have hds : ds st' ≠ .fail := fun e' => hne (by rw [e']; rfl)
  refine wpC_callWith hp hc (wpC_mono (ha _ _ _ _ r' hds) ?_ ?_)
  · rintro xs s2 ⟨vs, st2, σ2, imm2, e2, hp2, hi2, r2, hv⟩
    refine ⟨O.X.keeps r2.keep, ?_⟩
    rw [e2] at hne ⊢
    refine wpC_mono (h _ _ _ _ vs xs r2 hv hne) ?_ ?_
    · rintro y s3 ⟨v, st3, σ3, imm3, e3, hp3, hi3, r3, hv3⟩
      exact ⟨v, st3, σ3, imm3, e3, hp2.trans hp3, hi2.trans hi3, r3, hv3⟩
    · rintro e s3 ⟨q1, q2⟩
      exact ⟨q1, q2⟩
  · rintro e s2 ⟨q1, q2⟩
    rw [q1]
    exact ⟨rfl, q2⟩
/-- a method of a built-in type's -/
theorem SE_meth (O : Ok prog Φ lv) {o : Expr} {name : Str} {apos pos : Pos} {args : List Expr} {dob : Mo V} {ds : Mo (List V)} {T id : String} {F : V → List V → Mo V} {P : V → St → Bool}
    (ho : SE prog Φ o dob) (ha : SEs prog Φ (backTo pos (starEach args Φ.env)) ds) (hp : (backTo pos (starEach args Φ.env)).any (·.1) = false)
    (hbase : attributeBase o name Φ.env (eval o Φ.env) = eval o Φ.env)
    (hform : methodCallForm (args.length + ([] : List Keyword).length) (backTo pos (starEach args Φ.env)) (backToKw pos (keywordEach [] Φ.env)) = true)
    (hline : (apos.endLine == pos.line) = true)
    (pa : PlainAttrs T) (slot : Slot T name id) (hty : typeOf (.builtin id) = pure (.type "method_descriptor"))
    (hT : ∀ σ imm st s v x, Rel prog Φ σ imm st s → VR (kno imm Φ.Hk) σ v x → P v st = true → s.TypeIs x T ∧ ∀ a, x = .ref a → ∃ o, s.heap.get? a = some o ∧ o.dict = none)
    (h : ∀ σ imm st s v x vs xs, Rel prog Φ σ imm st s → VR (kno imm Φ.Hk) σ v x → VRs (kno imm Φ.Hk) σ vs xs → Snd prog Φ VR (call (.builtin id) (x :: xs)) (F v vs st) σ imm s) :
    SE prog Φ (.Call (.Attribute o name apos) args [] pos) (fun st => (dob st).bind fun v st => if P v st = true then (ds st).bind fun vs st => F v vs st else .fail) := fun σ imm st s r => by
  show Snd prog Φ VR (do
    let ov ← attributeBase o name Φ.env (eval o Φ.env)
    standAt apos.atName
    methodCall o name apos pos Φ.env ov (args.length + ([] : List Keyword).length) (backTo pos (starEach args Φ.env)) (backToKw pos (keywordEach [] Φ.env))) _ σ imm s
  rw [hbase]
  refine Snd.bind (ho _ _ _ _ r) fun v st' σ' imm' x s' _ hp1 hi1 r' hv => Snd.stand ?_
  intro hne
  have hP := ite_ne hne
  rw [if_pos hP] at hne ⊢
  obtain ⟨q1, q2⟩ := hT _ _ _ _ _ _ r' hv hP
  have hpos : methodCallPos true o Φ.env apos pos = pure pos := by unfold methodCallPos; simp [hline]
  unfold methodCall
  rw [hform]
  refine wpC_bind (wpC_holding (wpC_of (getMethod_builtin q1 pa slot hty q2 ?_)))
  rw [hpos]
  refine wpC_bind (wpC_pure ?_)
  have hds : ds st' ≠ .fail := fun e' => hne (by rw [e']; rfl)
  refine wpC_callWith (K := Φ.K) hp .bi (wpC_mono (ha _ _ _ _ r' hds) ?_ ?_)
  · rintro xs s2 ⟨vs, st2, σ2, imm2, e2, hp2, hi2, r2, hvs⟩
    refine ⟨O.X.keeps r2.keep, ?_⟩
    rw [e2] at hne ⊢
    refine wpC_mono (h _ _ _ _ v x vs xs r2 (hv.mono (kno.leI hi2) hp2) hvs hne) ?_ ?_
    · rintro y s3 ⟨v3, st3, σ3, imm3, e3, hp3, hi3, r3, hv3⟩
      exact ⟨v3, st3, σ3, imm3, e3, hp2.trans hp3, hi2.trans hi3, r3, hv3⟩
    · rintro e s3 ⟨q1, q2⟩
      exact ⟨q1, q2⟩
  · rintro e s2 ⟨q1, q2⟩
    rw [q1]
    exact ⟨rfl, q2⟩
end
end Mine
end
section
/-! text G1 -/
open PySem PySem.W PyProof.Rows
set_option Elab.async false
set_option maxRecDepth 100000
namespace Mine
namespace FA
theorem owner_bytearray : Manifest.owners.lookup (String.ofList ['y', 'a', 'r', 'r', 'a', 'e', 't', 'y', 'b'].reverse) = some Manifest.sig_bytearray := by kernel_rfl
theorem plainAttrs_bytearray : PlainAttrs "bytearray" :=
  ⟨⟨"bytearray.__getattribute__", by rw [typeLookup_type, builtinLookup_eq_fast]; kernel_rfl, by decide +kernel⟩, by rw [typeLookup_type, builtinLookup_eq_fast]; kernel_rfl⟩
theorem slot_bytearray_append : Slot "bytearray" "append" "bytearray.append" :=
  .of (owner := "bytearray") (n := "append") (by rw [typeLookup_type, builtinLookup_eq_fast]; kernel_rfl) (by decide +kernel) (by decide +kernel) (by decide +kernel)
    (by first | exact .inl (by decide +kernel) | exact .inr (by decide +kernel)) (by rw [isSubtype_type]; kernel_rfl)
theorem entry_bytearray_append : entryFor table "bytearray.append" = some Builtin.«bytearray.append» := by first | exact entryFor_of_tree (by kernel_rfl) | exact entryFor_of_fast (by kernel_rfl)
theorem args_bytearray_append (a b : Value) : argsOk "bytearray.append" ⟨[a, b], []⟩ := by
  unfold argsOk; rw [signature?_of (id := "bytearray.append") (n := ['d', 'n', 'e', 'p', 'p', 'a']) (o := ['y', 'a', 'r', 'r', 'a', 'e', 't', 'y', 'b']) (by kernel_rfl) owner_bytearray]; kernel_rfl
theorem type_bytearray_append : typeOf (.builtin "bytearray.append") = pure (.type "method_descriptor") := by show builtinType _ = _; rw [builtinType_eq_fast]; kernel_rfl
theorem slot_bytearray_extend : Slot "bytearray" "extend" "bytearray.extend" :=
  .of (owner := "bytearray") (n := "extend") (by rw [typeLookup_type, builtinLookup_eq_fast]; kernel_rfl) (by decide +kernel) (by decide +kernel) (by decide +kernel)
    (by first | exact .inl (by decide +kernel) | exact .inr (by decide +kernel)) (by rw [isSubtype_type]; kernel_rfl)
theorem entry_bytearray_extend : entryFor table "bytearray.extend" = some Builtin.«bytearray.extend» := by first | exact entryFor_of_tree (by kernel_rfl) | exact entryFor_of_fast (by kernel_rfl)
theorem args_bytearray_extend (a b : Value) : argsOk "bytearray.extend" ⟨[a, b], []⟩ := by
  unfold argsOk; rw [signature?_of (id := "bytearray.extend") (n := ['d', 'n', 'e', 't', 'x', 'e']) (o := ['y', 'a', 'r', 'r', 'a', 'e', 't', 'y', 'b']) (by kernel_rfl) owner_bytearray]; kernel_rfl
theorem type_bytearray_extend : typeOf (.builtin "bytearray.extend") = pure (.type "method_descriptor") := by show builtinType _ = _; rw [builtinType_eq_fast]; kernel_rfl
theorem slot_bytearray_len : Slot "bytearray" "__len__" "bytearray.__len__" :=
  .of (owner := "bytearray") (n := "__len__") (by rw [typeLookup_type, builtinLookup_eq_fast]; kernel_rfl) (by decide +kernel) (by decide +kernel) (by decide +kernel)
    (by first | exact .inl (by decide +kernel) | exact .inr (by decide +kernel)) (by rw [isSubtype_type]; kernel_rfl)
theorem entry_bytearray_len : entryFor table "bytearray.__len__" = some Builtin.«bytearray.__len__» := by first | exact entryFor_of_tree (by kernel_rfl) | exact entryFor_of_fast (by kernel_rfl)
theorem args_bytearray_len (a : Value) : argsOk "bytearray.__len__" ⟨[a], []⟩ := by
  unfold argsOk; rw [signature?_of (id := "bytearray.__len__") (n := ['_', '_', 'n', 'e', 'l', '_', '_']) (o := ['y', 'a', 'r', 'r', 'a', 'e', 't', 'y', 'b']) (by kernel_rfl) owner_bytearray]; kernel_rfl
theorem slot_bytearray_getitem : Slot "bytearray" "__getitem__" "bytearray.__getitem__" :=
  .of (owner := "bytearray") (n := "__getitem__") (by rw [typeLookup_type, builtinLookup_eq_fast]; kernel_rfl) (by decide +kernel) (by decide +kernel) (by decide +kernel)
    (by first | exact .inl (by decide +kernel) | exact .inr (by decide +kernel)) (by rw [isSubtype_type]; kernel_rfl)
theorem entry_bytearray_getitem : entryFor table "bytearray.__getitem__" = some Builtin.«bytearray.__getitem__» := by first | exact entryFor_of_tree (by kernel_rfl) | exact entryFor_of_fast (by kernel_rfl)
theorem args_bytearray_getitem (a b : Value) : argsOk "bytearray.__getitem__" ⟨[a, b], []⟩ := by
  unfold argsOk; rw [signature?_of (id := "bytearray.__getitem__") (n := ['_', '_', 'm', 'e', 't', 'i', 't', 'e', 'g', '_', '_']) (o := ['y', 'a', 'r', 'r', 'a', 'e', 't', 'y', 'b']) (by kernel_rfl) owner_bytearray]; kernel_rfl
theorem slot_bytearray_setitem : Slot "bytearray" "__setitem__" "bytearray.__setitem__" :=
  .of (owner := "bytearray") (n := "__setitem__") (by rw [typeLookup_type, builtinLookup_eq_fast]; kernel_rfl) (by decide +kernel) (by decide +kernel) (by decide +kernel)
    (by first | exact .inl (by decide +kernel) | exact .inr (by decide +kernel)) (by rw [isSubtype_type]; kernel_rfl)
theorem entry_bytearray_setitem : entryFor table "bytearray.__setitem__" = some Builtin.«bytearray.__setitem__» := by first | exact entryFor_of_tree (by kernel_rfl) | exact entryFor_of_fast (by kernel_rfl)
theorem args_bytearray_setitem (a b c : Value) : argsOk "bytearray.__setitem__" ⟨[a, b, c], []⟩ := by
  unfold argsOk; rw [signature?_of (id := "bytearray.__setitem__") (n := ['_', '_', 'm', 'e', 't', 'i', 't', 'e', 's', '_', '_']) (o := ['y', 'a', 'r', 'r', 'a', 'e', 't', 'y', 'b']) (by kernel_rfl) owner_bytearray]; kernel_rfl
theorem slot_bytearray_init : Slot "bytearray" "__init__" "bytearray.__init__" :=
  .of (owner := "bytearray") (n := "__init__") (by rw [typeLookup_type, builtinLookup_eq_fast]; kernel_rfl) (by decide +kernel) (by decide +kernel) (by decide +kernel)
    (by first | exact .inl (by decide +kernel) | exact .inr (by decide +kernel)) (by rw [isSubtype_type]; kernel_rfl)
theorem entry_bytearray_init : entryFor table "bytearray.__init__" = some Builtin.«bytearray.__init__» := by first | exact entryFor_of_tree (by kernel_rfl) | exact entryFor_of_fast (by kernel_rfl)
theorem args_bytearray_init (a : Value) : argsOk "bytearray.__init__" ⟨[a], []⟩ := by
  unfold argsOk; rw [signature?_of (id := "bytearray.__init__") (n := ['_', '_', 't', 'i', 'n', 'i', '_', '_']) (o := ['y', 'a', 'r', 'r', 'a', 'e', 't', 'y', 'b']) (by kernel_rfl) owner_bytearray]; kernel_rfl
theorem slot_bytearray_buffer : Slot "bytearray" "__buffer__" "bytearray.__buffer__" :=
  .of (owner := "bytearray") (n := "__buffer__") (by rw [typeLookup_type, builtinLookup_eq_fast]; kernel_rfl) (by decide +kernel) (by decide +kernel) (by decide +kernel)
    (by first | exact .inl (by decide +kernel) | exact .inr (by decide +kernel)) (by rw [isSubtype_type]; kernel_rfl)
theorem entry_bytearray_buffer : entryFor table "bytearray.__buffer__" = some Builtin.«bytearray.__buffer__» := by first | exact entryFor_of_tree (by kernel_rfl) | exact entryFor_of_fast (by kernel_rfl)
theorem args_bytearray_buffer (a b : Value) : argsOk "bytearray.__buffer__" ⟨[a, b], []⟩ := by
  unfold argsOk; rw [signature?_of (id := "bytearray.__buffer__") (n := ['_', '_', 'r', 'e', 'f', 'f', 'u', 'b', '_', '_']) (o := ['y', 'a', 'r', 'r', 'a', 'e', 't', 'y', 'b']) (by kernel_rfl) owner_bytearray]; kernel_rfl
theorem slot_bytes_join : Slot "bytes" "join" "bytes.join" :=
  .of (owner := "bytes") (n := "join") (by rw [typeLookup_type, builtinLookup_eq_fast]; kernel_rfl) (by decide +kernel) (by decide +kernel) (by decide +kernel)
    (by first | exact .inl (by decide +kernel) | exact .inr (by decide +kernel)) (by rw [isSubtype_type]; kernel_rfl)
theorem entry_bytes_join : entryFor table "bytes.join" = some Builtin.«bytes.join» := by first | exact entryFor_of_tree (by kernel_rfl) | exact entryFor_of_fast (by kernel_rfl)
theorem args_bytes_join (a b : Value) : argsOk "bytes.join" ⟨[a, b], []⟩ := by
  unfold argsOk; rw [signature?_of (id := "bytes.join") (n := ['n', 'i', 'o', 'j']) (o := ['s', 'e', 't', 'y', 'b']) (by kernel_rfl) PySem.W.FB.owner_bytes]; kernel_rfl
theorem type_bytes_join : typeOf (.builtin "bytes.join") = pure (.type "method_descriptor") := by show builtinType _ = _; rw [builtinType_eq_fast]; kernel_rfl
theorem bytes_bytes : typeLookup (.type "bytes") "__bytes__" = pure (some (.builtin "bytes.__bytes__")) := by rw [typeLookup_type, builtinLookup_eq_fast]; kernel_rfl
theorem bytes_buffer : typeLookup (.type "bytes") "__buffer__" = pure (some (.builtin "bytes.__buffer__")) := by rw [typeLookup_type, builtinLookup_eq_fast]; kernel_rfl
theorem bytes_release : typeLookup (.type "bytes") "__release_buffer__" = pure none := by rw [typeLookup_type, builtinLookup_eq_fast]; kernel_rfl
theorem barr_release : typeLookup (.type "bytearray") "__release_buffer__" = pure (some (.builtin "bytearray.__release_buffer__")) := by rw [typeLookup_type, builtinLookup_eq_fast]; kernel_rfl
theorem barr_bytes : typeLookup (.type "bytearray") "__bytes__" = pure none := by rw [typeLookup_type, builtinLookup_eq_fast]; kernel_rfl
theorem barr_index : typeLookup (.type "bytearray") "__index__" = pure none := by rw [typeLookup_type, builtinLookup_eq_fast]; kernel_rfl
theorem int_bytes : typeLookup (.type "int") "__bytes__" = pure none := by rw [typeLookup_type, builtinLookup_eq_fast]; kernel_rfl
theorem sub_barr : isSubtype (.type "bytearray") (.type "bytearray") = pure true := by rw [isSubtype_type]; kernel_rfl
theorem mro_barr : mroOf (.type "bytearray") = pure [.type "bytearray", .type "object"] := by rw [mroOf_type]; kernel_rfl
theorem lookup_barr_new : typeLookup (.type "bytearray") "__new__" = pure (some (.builtin "bytearray.__new__")) := by rw [typeLookup_type, builtinLookup_eq_fast]; kernel_rfl
theorem called_barr : TypeCalled "bytearray" "bytearray.__new__" "bytearray.__init__" :=
  ⟨by decide +kernel, by decide +kernel, ⟨_, _, mro_barr⟩, madeBy_type mro_barr lookup_barr_new (by decide +kernel), by decide +kernel, by rw [isSubtype_type]; kernel_rfl, slot_bytearray_init⟩
theorem typeCall_barr : checkTypeCall "bytearray" ⟨[], []⟩ = pure () := by kernel_rfl
theorem newCall_barr : checkBuiltinCall "bytearray.__new__" ⟨[.type "bytearray"], []⟩ = pure () := by kernel_rfl
theorem plain_barr_new : plainId "bytearray.__new__" = true := by decide +kernel
theorem entry_barr_new : entryFor table "bytearray.__new__" = some Builtin.«list.__new__» := entryFor_alias (id' := "list.__new__") (by kernel_rfl) (by decide +kernel) (by decide +kernel) (by kernel_rfl)
theorem barr_bind : Builtin.Bytes.bindOptional "bytearray.__init__" "bytearray" ["source", "encoding", "errors"] [] [] = pure [none, none, none] := by kernel_rfl
end FA
end Mine
end
section
/-! text G2 -/
open PySem PySem.W PyProof.Rows
set_option Elab.async false
set_option autoImplicit false
set_option maxRecDepth 100000
namespace Mine
open Sem (wp)

/-- a bytearray that holds b -/
noncomputable def BA (h : Heap) (a : Addr) (b : Array UInt8) : Prop := ∃ o, h.get? a = some o ∧ o.cls = .type "bytearray" ∧ o.dict = none ∧ o.data = .bytearray b 0

section
variable {M : Model} {A : Around} {E : Value → Shared → Prop} {s : Shared}
theorem exported_pred {self : Value} : ∀ x : Code × Pos, okC x.1 = true → (match x with
    | (.builtin "bytearray.__contains__" ⟨v :: _, _⟩, _) | (.builtin "bytearray.__mod__" ⟨v :: _, _⟩, _)
    | (.builtin "bytearray.__rmod__" ⟨_ :: v :: _, _⟩, _) | (.builtin "_struct.pack_into.held" ⟨v :: _, _⟩, _) => Builtin.Bytes.sameRef v self
    | (.builtin "bytearray.find.held" ⟨_ :: _ :: held, _⟩, _) => held.any (Builtin.Bytes.sameRef self)
    | (.builtin id ⟨v :: _, _⟩, _) => Builtin.Bytes.sameRef v self && Builtin.Bytes.decodersThatHold.contains id
    | _ => false) = false := by
  rintro ⟨c, p⟩ hx
  cases c with
  | builtin id args =>
    obtain ⟨pos, kw⟩ := args
    have ne : ∀ t, badIds.contains t = true → id ≠ t := fun t h e => by subst e; simp only [okC, h] at hx; exact absurd hx (by decide)
    have h2 : Builtin.Bytes.decodersThatHold.contains id = false := by
      cases h : Builtin.Bytes.decodersThatHold.contains id with
      | false => rfl
      | true =>
        refine absurd rfl (ne id ?_)
        unfold badIds
        rw [List.contains_iff_mem] at h ⊢
        exact List.mem_append_left _ h
    delta Mine.exported_pred.match_1
    dsimp only
    refine Eq.trans (dif_neg (ne "bytearray.__contains__" (by decide +kernel))) ?_
    refine Eq.trans (dif_neg (ne "bytearray.__mod__" (by decide +kernel))) ?_
    refine Eq.trans (dif_neg (ne "bytearray.__rmod__" (by decide +kernel))) ?_
    refine Eq.trans (dif_neg (ne "_struct.pack_into.held" (by decide +kernel))) ?_
    refine Eq.trans (dif_neg (ne "bytearray.find.held" (by decide +kernel))) ?_
    cases pos with
    | nil => rfl
    | cons v vs => show (_ && _) = false; rw [h2, Bool.and_false]
  | _ => rfl
theorem wpC_exported {self : Value} {Q : Bool → Shared → Prop} (h : Q false s) : wpC M A (Builtin.Bytes.exported self) Q E s := by
  intro Γ p h1 h2 h3
  unfold Builtin.Bytes.exported
  rw [Sem.wp_bind']
  unfold stack
  rw [Sem.wp_stack]
  rw [show ∀ (x : List (Code × Pos)) (Q' : List (Code × Pos) → Pos → Shared → Prop) E', wp M Γ (Sem.pure x) Q' E' p s = Q' x p s from fun _ _ _ => by rw [Sem.wp]]
  rw [show ∀ (x : Bool) (Q' : Bool → Pos → Shared → Prop) E', wp M Γ (pure x) Q' E' p s = Q' x p s from fun x Q' E' => by show wp M Γ (Sem.pure x) Q' E' p s = _; rw [Sem.wp]]
  have e : ∀ l : List (Code × Pos), CleanB l → (l.any fun x => match x with
    | (.builtin "bytearray.__contains__" ⟨v :: _, _⟩, _) | (.builtin "bytearray.__mod__" ⟨v :: _, _⟩, _)
    | (.builtin "bytearray.__rmod__" ⟨_ :: v :: _, _⟩, _) | (.builtin "_struct.pack_into.held" ⟨v :: _, _⟩, _) => Builtin.Bytes.sameRef v self
    | (.builtin "bytearray.find.held" ⟨_ :: _ :: held, _⟩, _) => held.any (Builtin.Bytes.sameRef self)
    | (.builtin id ⟨v :: _, _⟩, _) => Builtin.Bytes.sameRef v self && Builtin.Bytes.decodersThatHold.contains id
    | _ => false) = false := by
    intro l hl
    rw [List.any_eq_false]
    intro x hx
    rw [exported_pred x (hl x hx)]
    decide
  have h4 := e ((Γ.code, p) :: Γ.below) (h3.cons h2)
  exact Eq.mpr (congrArg (fun b => Q b s) h4) h
theorem wpC_checkResize {a : Addr} {b : Array UInt8} {Q : Unit → Shared → Prop} (hb : BA s.heap a b) (h : Q () s) : wpC M A (Builtin.Bytes.checkResize (.ref a)) Q E s := by
  obtain ⟨o, ho, hc, hd, hdt⟩ := hb
  unfold Builtin.Bytes.checkResize
  refine wpC_bind ?_
  show wpC M A (Builtin.Bytes.exported (.ref a) >>= _) _ _ _
  refine wpC_bind (wpC_exported ?_)
  show wpC M A (Builtin.Bytes.exportsOf (.ref a) >>= fun n => pure (decide (n > 0))) _ _ _
  refine wpC_bind ?_
  unfold Builtin.Bytes.exportsOf
  refine wpC_bind (wpC_of (wpAny_load ho ?_))
  rw [hdt]
  exact wpC_pure (wpC_pure (wpC_pure h))
end

section
variable {prog : Program} {w : World} {A : Around} {E : Value → Shared → Prop} {R : Result → Shared → Prop} {s : Shared}
theorem wpAny_payload_ba {M : Model} {a : Addr} {b : Array UInt8} {Q : Array UInt8 → Shared → Prop} (hb : BA s.heap a b) (h : Q b s) : wpAny M A (Builtin.Bytes.payload (.ref a)) Q E s := by
  obtain ⟨o, ho, hc, hd, hdt⟩ := hb
  unfold Builtin.Bytes.payload Builtin.Bytes.payload?
  refine wpAny_bind (wpAny_bind (wpAny_load ho ?_))
  rw [hdt]
  exact wpAny_pure (wpAny_pure h)
theorem wpAny_write_ba {M : Model} {a : Addr} {b : Array UInt8} {f : Array UInt8 → Array UInt8} {Q : Unit → Shared → Prop} (hb : BA s.heap a b) (hz : (f b).size ≤ sizeLine)
    (h : ∀ h', BA h' a (f b) → Heap.SameBut a s.heap h' → Q () { s with heap := h' }) : wpAny M A (Builtin.Bytes.write (.ref a) f) Q E s := by
  obtain ⟨⟨c, d, dt, sl⟩, ho, hc, hd, hdt⟩ := hb
  simp only at hc hd hdt; subst hc; subst hd; subst hdt
  show wpAny M A (updateBytearray a f) _ _ _
  unfold updateBytearray
  refine wpAny_bind (wpAny_load ho ?_)
  show wpAny M A (update a (Obj.mapBytearray f) >>= fun _ => lookBehind a) _ _ _
  refine wpAny_bind (wpAny_update ho ?_)
  have h2 := Heap.get?_update_self (Obj.mapBytearray f) ho rfl
  refine wpAny_lookBehind h2 ?_ (h _ ⟨_, h2, rfl, rfl, rfl⟩ (Heap.SameBut.update ..))
  show (if (f b).size > sizeLine then some "bytearray:memory" else none) = none
  rw [if_neg (Nat.not_lt.mpr hz)]
theorem BA.typeIs {a : Addr} {b : Array UInt8} (hb : BA s.heap a b) : s.TypeIs (.ref a) "bytearray" := let ⟨o, ho, hc, _⟩ := hb; ⟨o, ho, hc⟩
/-- a built-in's method, in a clean place -/
theorem wpC_call_entry {T : String} {name : Str} {id : String} {b : Builtin} {self : Value} {rest : List Value} {Q : Value → Shared → Prop} (h : Slot T name id) (hT : s.TypeIs self T)
    (hb : entryFor table id = some b) (hok : badIds.contains id = false) (ha : argsOk id ⟨self :: rest, []⟩)
    (hc : wpC (model prog w) A.in1 (b ⟨self :: rest, []⟩) (fun fin s' => ∃ v, fin = .done (.ret v) ∧ Q v s') E s) :
    wpC (model prog w) A (call (.builtin id) (self :: rest)) Q E s := by
  refine wpC_call (codeC_of_tree rfl ?_)
  show wpC _ A.in1 (do checkBuiltinCall id ⟨self :: rest, []⟩; again (.builtin id ⟨self :: rest, []⟩)) _ _ s
  refine wpC_bind (wpC_of (h.check _ _ _ _ _ _ _ _ hT ha ?_))
  refine wpC_pure ⟨plainId_quiet h.plain _, codeC_of_tree (by simp only [okC, hok, Bool.not_false]) ?_⟩
  rw [Around.under_plainId h.plain _]
  show wpC _ _ (match entryFor table id with | some b => b ⟨self :: rest, []⟩ | none => unsupported ((withoutEnding? id "#data").getD id)) _ _ s
  rw [hb]
  refine wpC_mono hc (fun fin s' h' => ?_) fun _ _ e => e
  obtain ⟨v, rfl, hv⟩ := h'
  exact hv
theorem barr_append {a : Addr} {b : Array UInt8} {i : Int} {t : Tok} {Q : Value → Shared → Prop} (hb : BA s.heap a b) (h0 : 0 ≤ i) (h1 : i < 256) (hz : b.size < sizeLine)
    (h : ∀ h', BA h' a (b.push i.toNat.toUInt8) → Heap.SameBut a s.heap h' → Q .none { s with heap := h' }) :
    wpC (model prog w) A (call (.builtin "bytearray.append") [.ref a, .int i t]) Q E s := by
  refine wpC_call_entry FA.slot_bytearray_append hb.typeIs FA.entry_bytearray_append (by decide +kernel) (FA.args_bytearray_append _ _) ?_
  show wpC _ _ (Builtin.Bytes.byteValue (.int i t) >>= _) _ _ _
  refine wpC_bind ?_
  unfold Builtin.Bytes.byteValue
  refine wpC_bind (m := asIndex (.int i t)) (wpC_pure ?_)
  have hc : (decide (i < 0) || decide (i ≥ 256)) = false := by simp only [Bool.or_eq_false_iff, decide_eq_false_iff_not]; lia
  simp only [hc, Bool.false_eq_true, if_false]
  refine wpC_pure ?_
  refine wpC_bind (wpC_checkResize hb ?_)
  refine wpC_bind (wpC_of (wpAny_write_ba hb (by rw [Array.size_push]; exact hz) fun h' h2 h3 => ?_))
  exact wpC_pure ⟨_, rfl, h h' h2 h3⟩
end
end Mine
end
section
/-! text G3 -/
open PySem PySem.W PyProof.Rows
set_option Elab.async false
set_option autoImplicit false
set_option maxRecDepth 100000
namespace Mine
open Sem (wp)

section
variable {M : Model} {A : Around} {E : Value → Shared → Prop} {s : Shared}
theorem own_bytes {b : Array UInt8} {t : Tok} {Q : Bool → Shared → Prop} (h : Q true s) : wpAny M A (Builtin.Bytes.slotIsOwn (.bytes b t) "__buffer__") Q E s := by
  unfold Builtin.Bytes.slotIsOwn
  refine wpAny_bind (wpAny_specialOf (PySem.W.typeIs_bytes s b t) FA.bytes_buffer ?_)
  have e1 : ("bytes.__buffer__" : String).endsWith ("." ++ "__buffer__") = true := by decide +kernel
  have e2 : ("bytes.__buffer__" : String).dropRight (("__buffer__" : String).length + 1) = "bytes" := by decide +kernel
  dsimp only
  rw [e1, e2]
  exact wpAny_isInstance (PySem.W.typeIs_bytes s b t) F.bm_sub h
theorem release_bytes {b : Array UInt8} {t : Tok} {Q : Bool → Shared → Prop} (h : Q false s) : wpAny M A (Builtin.Bytes.ownRelease (.bytes b t)) Q E s := by
  unfold Builtin.Bytes.ownRelease Builtin.Bytes.slotIsOwn
  exact wpAny_bind (wpAny_bind (wpAny_specialOf (PySem.W.typeIs_bytes s b t) FA.bytes_release (wpAny_pure (wpAny_pure h))))
theorem own_barr {a : Addr} {b : Array UInt8} {Q : Bool → Shared → Prop} (hb : BA s.heap a b) (h : Q true s) : wpAny M A (Builtin.Bytes.slotIsOwn (.ref a) "__buffer__") Q E s := by
  unfold Builtin.Bytes.slotIsOwn
  refine wpAny_bind (wpAny_specialOf hb.typeIs FA.slot_bytearray_buffer.lookup ?_)
  have e1 : ("bytearray.__buffer__" : String).endsWith ("." ++ "__buffer__") = true := by decide +kernel
  have e2 : ("bytearray.__buffer__" : String).dropRight (("__buffer__" : String).length + 1) = "bytearray" := by decide +kernel
  dsimp only
  rw [e1, e2]
  exact wpAny_isInstance hb.typeIs FA.sub_barr h
theorem release_barr {a : Addr} {b : Array UInt8} {Q : Bool → Shared → Prop} (hb : BA s.heap a b) (h : Q false s) : wpAny M A (Builtin.Bytes.ownRelease (.ref a)) Q E s := by
  unfold Builtin.Bytes.ownRelease Builtin.Bytes.slotIsOwn
  refine wpAny_bind (wpAny_bind (wpAny_specialOf hb.typeIs FA.barr_release ?_))
  have e1 : ("bytearray.__release_buffer__" : String).endsWith ("." ++ "__release_buffer__") = true := by decide +kernel
  have e2 : ("bytearray.__release_buffer__" : String).dropRight (("__release_buffer__" : String).length + 1) = "bytearray" := by decide +kernel
  dsimp only
  rw [e1, e2]
  exact wpAny_isInstance hb.typeIs FA.sub_barr (wpAny_pure h)
theorem buffer_bytes {id : String} {b : Array UInt8} {t : Tok} {full : Bool} {Q : Option (Array UInt8) → Shared → Prop} (h : Q (some b) s) : wpAny M A (Builtin.Bytes.buffer? id (.bytes b t) full) Q E s := by
  unfold Builtin.Bytes.buffer?
  refine wpAny_bind (wpAny_specialOf (PySem.W.typeIs_bytes s b t) FA.bytes_buffer ?_)
  refine wpAny_bind (own_bytes ?_)
  refine wpAny_bind (wpAny_specialOf (PySem.W.typeIs_bytes s b t) FA.bytes_buffer ?_)
  refine wpAny_bind (release_bytes ?_)
  exact wpAny_bind (wpAny_of_eq (a := b) rfl (wpAny_pure h))
theorem buffer_barr {id : String} {a : Addr} {b : Array UInt8} {full : Bool} {Q : Option (Array UInt8) → Shared → Prop} (hb : BA s.heap a b) (h : Q (some b) s) : wpAny M A (Builtin.Bytes.buffer? id (.ref a) full) Q E s := by
  unfold Builtin.Bytes.buffer?
  refine wpAny_bind (wpAny_specialOf hb.typeIs FA.slot_bytearray_buffer.lookup ?_)
  refine wpAny_bind (own_barr hb ?_)
  refine wpAny_bind (wpAny_specialOf hb.typeIs FA.slot_bytearray_buffer.lookup ?_)
  refine wpAny_bind (release_barr hb ?_)
  exact wpAny_bind (wpAny_payload_ba hb (wpAny_pure h))
theorem take_bytes {id : String} {b : Array UInt8} {t : Tok} {f : Int} {Q : Option (Array UInt8 × Option Value) → Shared → Prop} (h : Q (some (b, none)) s) : wpAny M A (Builtin.Bytes.takeBufferQuiet? id (.bytes b t) f) Q E s := by
  unfold Builtin.Bytes.takeBufferQuiet? Builtin.Bytes.takeBuffer?
  refine wpAny_bind (wpAny_attempt ?_)
  refine wpAny_bind (wpAny_specialOf (PySem.W.typeIs_bytes s b t) FA.bytes_buffer ?_)
  refine wpAny_bind (own_bytes ?_)
  refine wpAny_bind (wpAny_specialOf (PySem.W.typeIs_bytes s b t) FA.bytes_buffer ?_)
  exact wpAny_bind (buffer_bytes (wpAny_pure (wpAny_pure h)))
end

section
variable {prog : Program} {w : World} {A : Around} {E : Value → Shared → Prop} {R : Result → Shared → Prop} {s : Shared}
theorem barr_extend {a : Addr} {b c : Array UInt8} {t : Tok} {Q : Value → Shared → Prop} (hb : BA s.heap a b) (hz : b.size + c.size ≤ sizeLine)
    (h : ∀ h', BA h' a (b ++ c) → Heap.SameBut a s.heap h' → Q .none { s with heap := h' }) :
    wpC (model prog w) A (call (.builtin "bytearray.extend") [.ref a, .bytes c t]) Q E s := by
  refine wpC_call_entry FA.slot_bytearray_extend hb.typeIs FA.entry_bytearray_extend (by decide +kernel) (FA.args_bytearray_extend _ _) ?_
  unfold Builtin.«bytearray.extend»
  refine wpC_bind (m := selfAndOne "bytearray.extend" _) (wpC_pure ?_)
  dsimp only
  refine wpC_bind (wpC_of (wpAny_specialOf (PySem.W.typeIs_bytes s c t) FA.bytes_buffer ?_))
  simp only [Option.isSome_some, if_true]
  refine wpC_bind (wpC_rule ?_)
  refine wpC_bind (wpC_of (wpAny_payload_ba hb ?_))
  refine wpC_bind (wpC_of (take_bytes ?_))
  dsimp only
  simp only [Option.isNone_none, if_true]
  have fin : wpC (model prog w) A.in1 (Builtin.Bytes.write (.ref a) (fun x => x ++ c) >>= fun _ => ret .none) (fun fin s' => ∃ v, fin = .done (.ret v) ∧ Q v s') E s := by
    refine wpC_bind (wpC_of (wpAny_write_ba hb (by rw [Array.size_append]; exact hz) fun h' h2 h3 => ?_))
    exact wpC_pure ⟨_, rfl, h h' h2 h3⟩
  show wpC _ _ (if (!c.isEmpty) = true then (Builtin.Bytes.checkResize (.ref a) >>= fun _ => Builtin.Bytes.write (.ref a) (fun x => x ++ c) >>= fun _ => ret .none) else (Builtin.Bytes.write (.ref a) (fun x => x ++ c) >>= fun _ => ret .none)) _ _ _
  by_cases hc : (!c.isEmpty) = true
  · rw [if_pos hc]
    exact wpC_bind (wpC_checkResize hb fin)
  · rw [if_neg hc]
    exact fin
theorem barr_len {a : Addr} {b : Array UInt8} {Q : Value → Shared → Prop} (hb : BA s.heap a b) (hz : b.size ≤ 1099511627776)
    (h : Q (.int b.size (s.toks + 1)) { s with toks := s.toks + 1 + 1 }) : wpAny (model prog w) A (call (.builtin "len") [.ref a]) Q E s := by
  refine Calls.call_function_entry kind_len plain_len entry_len (args_len1 _) ?_
  unfold Builtin.«len»
  refine wpAny_bind (m := oneArg "len" _) (wpAny_pure ?_)
  refine wpAny_bind (m := callSpecial? (.ref a) (Str.ofString "__len__")) (wpAny_callSpecial?_slot (name := Str.ofString "__len__") hb.typeIs FA.slot_bytearray_len
    (wpAny_call_entry FA.slot_bytearray_len hb.typeIs FA.entry_bytearray_len ?_ (FA.args_bytearray_len _)))
  · show wpAny _ _ (Builtin.Bytes.payload (.ref a) >>= _) _ _ s
    refine wpAny_bind (wpAny_payload_ba hb ?_)
    refine wpAny_bind (wpAny_mkInt (wpAny_pure ⟨_, rfl, ?_⟩))
    refine wpAny_bind (wpAny_holding (wpAny_pure ?_))
    refine wpAny_bind (wpAny_letGo ?_)
    show wpAny _ _ (if ((b.size : Nat) : Int) < 0 then _ else _) _ _ _
    rw [if_neg (by lia)]
    show wpAny _ _ (if ((b.size : Nat) : Int) ≥ 2 ^ 63 then _ else _) _ _ _
    rw [if_neg (by lia)]
    exact wpAny_bind (wpAny_mkInt (wpAny_pure ⟨_, rfl, h⟩))
theorem subscript_int {M : Model} {i : Int} {u : Tok} {Q : Option Int → Shared → Prop} (h0 : 0 ≤ i) (h1 : i < 2 ^ 63) (h : Q (some i) s) : wpAny M A (Builtin.Bytes.subscript? (.int i u)) Q E s := by
  unfold Builtin.Bytes.subscript?
  refine wpAny_bind (wpAny_specialOf (typeIs_int s i u) F.slot_int_index.lookup ?_)
  show wpAny M A (if (!Builtin.Bytes.fitsIndex i) = true then _ else pure (some i)) _ E s
  have hr : Builtin.Bytes.fitsIndex i = true := by simp only [Builtin.Bytes.fitsIndex, Bool.and_eq_true, decide_eq_true_eq]; lia
  rw [hr]
  exact wpAny_pure h
theorem seqIndex_nonneg {i : Int} {n : Nat} (h0 : 0 ≤ i) (h1 : i < n) : seqIndex? i n = some i.toNat := by
  have hn : ¬ i < 0 := by lia
  simp [seqIndex?, hn, h0, h1]
theorem barr_getitem {a : Addr} {b : Array UInt8} {i : Int} {u : Tok} {Q : Value → Shared → Prop} (hb : BA s.heap a b) (hz : b.size ≤ 1099511627776) (h0 : 0 ≤ i) (h1 : i < b.size)
    (h : ∀ t' k, Q (.int ((b.getD i.toNat 0).toNat : Int) t') { s with toks := k }) : wpAny (model prog w) A (getItem (.ref a) (.int i u)) Q E s := by
  refine wpAny_getItem_slot hb.typeIs (by decide) FA.slot_bytearray_getitem (wpAny_call_entry FA.slot_bytearray_getitem hb.typeIs FA.entry_bytearray_getitem ?_ (FA.args_bytearray_getitem _ _))
  show wpAny _ _ (Builtin.Bytes.subscript? (.int i u) >>= _) _ _ _
  refine wpAny_bind (subscript_int h0 (by lia) ?_)
  dsimp only
  refine wpAny_bind (wpAny_payload_ba hb ?_)
  have e : (seqIndex? i b.size).bind (b[·]?) = some (b.getD i.toNat 0) := by
    rw [seqIndex_nonneg h0 h1]
    have hl : i.toNat < b.size := by lia
    simp [hl]
  rw [e]
  exact wpAny_bind (wpAny_mkInt (wpAny_pure ⟨_, rfl, h _ _⟩))
end
end Mine
end
section
/-! text G4 -/
open PySem PySem.W PyProof.Rows
set_option Elab.async false
set_option autoImplicit false
set_option maxRecDepth 100000
namespace Mine
open Sem (wp)

section
variable {prog : Program} {w : World} {A : Around} {E : Value → Shared → Prop} {R : Result → Shared → Prop} {s : Shared}
theorem barr_setitem {a : Addr} {b : Array UInt8} {i x : Int} {u v : Tok} {Q : Unit → Shared → Prop} (hb : BA s.heap a b) (hz : b.size ≤ sizeLine) (h0 : 0 ≤ i) (h1 : i < b.size) (h2 : 0 ≤ x) (h3 : x < 256)
    (h : ∀ h', BA h' a (b.setIfInBounds i.toNat x.toNat.toUInt8) → Heap.SameBut a s.heap h' → Q () { s with heap := h' }) : wpAny (model prog w) A (setItem (.ref a) (.int i u) (.int x v)) Q E s := by
  unfold setItem
  try with_reducible refine wpAny_holding ?_
  first | refine wpAny_bind (wpAny_pure ?_) | skip
  refine wpAny_bind (wpAny_sequenceKey hb.typeIs (by decide) ?_)
  have hz' : (b.size : Int) ≤ 1099511627776 := by
    have : sizeLine ≤ 1099511627776 := by rw [sizeLine_eq]; decide
    lia
  refine wpAny_bind (wpAny_callSpecial?_slot (name := Str.ofString "__setitem__") hb.typeIs FA.slot_bytearray_setitem
    (wpAny_call_entry FA.slot_bytearray_setitem hb.typeIs FA.entry_bytearray_setitem ?_ (FA.args_bytearray_setitem _ _ _)))
  show wpAny _ _ (Builtin.Bytes.subscript? (.int i u) >>= _) _ _ _
  refine wpAny_bind (subscript_int h0 (by lia) ?_)
  dsimp only
  show wpAny _ _ (Builtin.Bytes.byteValue (.int x v) >>= _) _ _ _
  refine wpAny_bind ?_
  unfold Builtin.Bytes.byteValue
  refine wpAny_bind (m := asIndex (.int x v)) (wpAny_pure ?_)
  have hc : (decide (x < 0) || decide (x ≥ 256)) = false := by simp only [Bool.or_eq_false_iff, decide_eq_false_iff_not]; lia
  simp only [hc, Bool.false_eq_true, if_false]
  refine wpAny_pure ?_
  refine wpAny_bind (wpAny_payload_ba hb ?_)
  rw [seqIndex_nonneg h0 h1]
  dsimp only
  refine wpAny_bind (wpAny_write_ba hb (by rw [Array.size_setIfInBounds]; exact hz) fun h' h4 h5 => ?_)
  exact wpAny_pure ⟨_, rfl, by exact wpAny_pure (h h' h4 h5)⟩

theorem bytes_of_new {x : Value} {b : Array UInt8} {Q : Value → Shared → Prop}
    (hn : ∀ A : Around, wpAny (model prog w) A (Builtin.«bytes.__new__» ⟨[.type "bytes", x], []⟩) (fun fin s' => ∃ t k, fin = .done (.ret (.bytes b t)) ∧ s' = { s with toks := k }) (fun _ _ => False) s)
    (hQ : ∀ t k, Q (.bytes b t) { s with toks := k }) : wpAny (model prog w) A (call (.type "bytes") [x]) Q E s := by
  refine callType_codes (Q₁ := fun obj s₁ => s₁.TypeIs obj "bytes" ∧ Q obj s₁) F.bm_called (F.bm_typeCall _) F.entry_object_init
    ?_ fun obj s₁ h₁ => ?_
  · refine codeAny_of_tree ?_
    show wpAny _ _ (do checkBuiltinCall "bytes.__new__" ⟨[.type "bytes", x], []⟩; again (.builtin "bytes.__new__" ⟨[.type "bytes", x], []⟩)) _ _ s
    refine wpAny_bind (wpAny_of_eq (F.bm_newCall _) (wpAny_pure ⟨plainId_quiet F.bm_plain _, codeAny_builtin F.bm_entry ?_⟩))
    rw [Around.under_plainId F.bm_plain _]
    refine wpAny_mono (hn _) ?_ fun _ _ (e : False) => e.elim
    rintro fin s' ⟨t, k, rfl, rfl⟩
    exact ⟨PySem.W.typeIs_bytes _ _ _, hQ t k⟩
  · exact ⟨h₁.1, F.args_object_init_2 obj _, object_init_meets F.bm_called.init.lookup F.bm_called.made (by decide) prog w _ _ s₁ ⟨h₁.1, rfl, h₁.2⟩⟩
theorem bytes_barr {a : Addr} {b : Array UInt8} {Q : Value → Shared → Prop} (hb : BA s.heap a b) (hz : b.size ≤ sizeLine) (hQ : ∀ t k, Q (.bytes b t) { s with toks := k }) :
    wpAny (model prog w) A (call (.type "bytes") [.ref a]) Q E s := by
  refine bytes_of_new (fun A => ?_) hQ
  unfold Builtin.«bytes.__new__»
  refine wpAny_bind (wpAny_of_eq (a := true) rfl ?_)
  refine bm_if_false rfl ?_
  refine wpAny_bind (wpAny_of_eq F.bm_sub ?_)
  refine bm_if_false rfl ?_
  refine wpAny_bind (wpAny_of_eq (F.bm_bind _) ?_)
  refine wpAny_bind (wpAny_of_eq (a := ()) rfl ?_)
  refine wpAny_bind (wpAny_of_eq (a := ()) rfl ?_)
  refine bm_if_false rfl ?_
  refine wpAny_bind (wpAny_specialOf hb.typeIs FA.barr_bytes ?_)
  obtain ⟨o, ho, hc, hd, hdt⟩ := id hb
  refine wpAny_bind (wpAny_bind ?_)
  show wpAny _ _ (load a >>= _) _ _ _
  refine wpAny_bind (wpAny_load ho ?_)
  rw [hdt]
  refine wpAny_pure (wpAny_pure ?_)
  refine bm_if_false rfl ?_
  refine wpAny_bind (wpAny_specialOf hb.typeIs FA.barr_index ?_)
  refine bm_if_true rfl ?_
  first
    | show wpAny _ _ (Builtin.Bytes.buffer? "bytes.__new__" (.ref a) true >>= _) _ _ _
    | (refine wpAny_bind ?_; show wpAny _ _ (Builtin.Bytes.buffer? "bytes.__new__" (.ref a) true >>= _) _ _ _)
  refine wpAny_bind (buffer_barr hb ?_)
  dsimp only
  refine wpAny_bind (wpAny_rule ?_)
  refine wpAny_bind (wpAny_mkBytes ?_ hz)
  refine bm_if_true (by decide) ?_
  first
    | exact wpAny_pure ⟨_, _, rfl, rfl⟩
    | exact wpAny_bind (wpAny_pure (wpAny_pure ⟨_, _, rfl, rfl⟩))
theorem bytes_count {n : Int} {u : Tok} {Q : Value → Shared → Prop} (h0 : 0 ≤ n) (h1 : n ≤ 1048576) (hQ : ∀ t k, Q (.bytes (Array.replicate n.toNat 0) t) { s with toks := k }) :
    wpAny (model prog w) A (call (.type "bytes") [.int n u]) Q E s := by
  refine bytes_of_new (fun A => ?_) hQ
  unfold Builtin.«bytes.__new__»
  refine wpAny_bind (wpAny_of_eq (a := true) rfl ?_)
  refine bm_if_false rfl ?_
  refine wpAny_bind (wpAny_of_eq F.bm_sub ?_)
  refine bm_if_false rfl ?_
  refine wpAny_bind (wpAny_of_eq (F.bm_bind _) ?_)
  refine wpAny_bind (wpAny_of_eq (a := ()) rfl ?_)
  refine wpAny_bind (wpAny_of_eq (a := ()) rfl ?_)
  refine bm_if_false rfl ?_
  refine wpAny_bind (wpAny_specialOf (typeIs_int s n u) FA.int_bytes ?_)
  refine wpAny_bind (wpAny_of_eq (a := false) rfl ?_)
  refine bm_if_false rfl ?_
  refine wpAny_bind (wpAny_specialOf (typeIs_int s n u) F.slot_int_index.lookup ?_)
  refine bm_if_false rfl ?_
  refine wpAny_bind (wpAny_of_eq (a := .ok n) rfl ?_)
  dsimp only
  have hs : (1048576 : Nat) ≤ sizeLine := by rw [sizeLine_eq]; decide
  have hn : n.toNat ≤ sizeLine := by lia
  refine bm_if_false (by simp only [Builtin.Bytes.fitsIndex, Bool.not_eq_false', Bool.and_eq_true, decide_eq_true_eq]; lia) ?_
  rw [if_neg (by lia)]
  rw [if_neg (by lia)]
  refine bm_if_false (by simp only [Builtin.Bytes.tooLong, decide_eq_false_iff_not]; lia) ?_
  refine wpAny_bind (wpAny_rule ?_)
  refine wpAny_bind (wpAny_mkBytes ?_ (by rw [Array.size_replicate]; exact hn))
  refine bm_if_true (by decide) ?_
  first
    | exact wpAny_pure ⟨_, _, rfl, rfl⟩
    | exact wpAny_bind (wpAny_pure (wpAny_pure ⟨_, _, rfl, rfl⟩))
end
end Mine
end
section
/-! text G5 -/
open PySem PySem.W PyProof.Rows
set_option Elab.async false
set_option autoImplicit false
set_option maxRecDepth 1000000
namespace Mine
open Sem (wp)
set_option maxHeartbeats 4000000 in
theorem owner_barr_new : ("bytearray.__new__".splitOn ".__new__").headD "" = "bytearray" := by simp +decide [String.splitOn, String.splitOnAux]

section
variable {prog : Program} {w : World} {A : Around} {E : Value → Shared → Prop} {R : Result → Shared → Prop} {s : Shared}
theorem codeC_builtin {id : String} {args : Args} {b : Builtin} (hok : badIds.contains id = false) (hb : entryFor table id = some b)
    (h : wpC (model prog w) (A.under (.builtin id args)) (b args)
      (fun fin s' => match fin with | .done f => R (.ok f) s' | .again c' => c'.quiet = true ∧ codeC (model prog w) A c' R s') (fun e s' => R (.error e) s') s) :
    codeC (model prog w) A (.builtin id args) R s := by
  refine codeC_of_tree (by simp only [okC, hok, Bool.not_false]) ?_
  show wpC _ _ (match entryFor table id with | some b => b args | none => unsupported ((withoutEnding? id "#data").getD id)) _ _ s
  rw [hb]; exact h
theorem code_barr_new {Q₁ : Value → Shared → Prop}
    (h : Q₁ (.ref s.heap.objs.size) { s with heap := s.heap.push { cls := .type "bytearray", data := .bytearray #[] } }) :
    codeAny (model prog w) A (.call (.builtin "bytearray.__new__") ⟨[.type "bytearray"], []⟩) (wants Q₁ E) s := by
  refine codeAny_of_tree ?_
  show wpAny _ A.in1 (do checkBuiltinCall "bytearray.__new__" ⟨[.type "bytearray"], []⟩; again (.builtin "bytearray.__new__" ⟨[.type "bytearray"], []⟩)) _ _ s
  refine wpAny_bind (wpAny_of_eq FA.newCall_barr (wpAny_pure ⟨plainId_quiet FA.plain_barr_new _, codeAny_builtin_stack FA.entry_barr_new rfl fun p st => ?_⟩))
  rw [Around.under_plainId FA.plain_barr_new _]
  have hsub := FA.sub_barr
  have hown := owner_barr_new
  obtain ⟨hp, g, d, tk, os⟩ := s
  simp only [hown]
  wp_walk
  exact h
theorem code_barr_init {a : Addr} {b : Array UInt8} (hb : BA s.heap a b)
    (h : ∀ h', BA h' a #[] → Heap.SameBut a s.heap h' → R (.ok (.ret .none)) { s with heap := h' }) :
    codeC (model prog w) A (.call (.builtin "bytearray.__init__") ⟨[.ref a], []⟩) R s := by
  refine codeC_of_tree rfl ?_
  show wpC _ A.in1 (do checkBuiltinCall "bytearray.__init__" ⟨[.ref a], []⟩; again (.builtin "bytearray.__init__" ⟨[.ref a], []⟩)) _ _ s
  refine wpC_bind (wpC_of (FA.slot_bytearray_init.check _ _ _ _ _ _ _ _ hb.typeIs (FA.args_bytearray_init _) ?_))
  refine wpC_pure ⟨plainId_quiet FA.slot_bytearray_init.plain _, codeC_builtin (by decide +kernel) FA.entry_bytearray_init ?_⟩
  unfold Builtin.«bytearray.__init__»
  dsimp only
  refine wpC_bind (wpC_of (release_barr hb ?_))
  rw [if_neg (by decide)]
  refine wpC_bind (wpC_of (wpAny_of_eq FA.barr_bind ?_))
  dsimp only
  refine wpC_bind (wpC_of (wpAny_of_eq (a := ()) rfl ?_))
  refine wpC_bind (wpC_of (wpAny_of_eq (a := ()) rfl ?_))
  refine wpC_bind ?_
  show wpC _ _ (Builtin.Bytes.exported (.ref a) >>= _) _ _ _
  refine wpC_bind (wpC_exported ?_)
  show wpC _ _ (Builtin.Bytes.exportsOf (.ref a) >>= fun n => pure (decide (n > 0))) _ _ _
  obtain ⟨o, ho, hc, hd, hdt⟩ := id hb
  refine wpC_bind ?_
  unfold Builtin.Bytes.exportsOf
  refine wpC_bind (wpC_of (wpAny_load ho ?_))
  rw [hdt]
  refine wpC_pure (wpC_pure ?_)
  rw [if_neg (by decide)]
  refine wpC_bind (wpC_of (wpAny_write_ba hb (Nat.zero_le _) fun h' h2 h3 => ?_))
  show wpC _ _ (pure () >>= _) _ _ _
  exact wpC_bind (wpC_pure (wpC_pure (h h' h2 h3)))
theorem barr_make {Q : Value → Shared → Prop} (h : ∀ h', BA h' s.heap.objs.size #[] → (∀ b o, s.heap.get? b = some o → h'.get? b = some o) → Q (.ref s.heap.objs.size) { s with heap := h' }) :
    wpC (model prog w) A (call (.type "bytearray") []) Q E s := by
  refine wpC_call (codeC_of_tree rfl ?_)
  show wpC _ _ (callAny (.type "bytearray") _) _ _ _
  refine wpC_pure ⟨Code.quiet_builtin _ (by decide +kernel), codeC_builtin (by decide +kernel) F.entry_type_call ?_⟩
  rw [Around.under_plain (weight_type_call_type "bytearray" [] []) rfl]
  unfold Builtin.«type.__call__»
  dsimp only
  rw [if_neg (by decide)]
  rw [if_neg (by rw [FA.called_barr.canCreate]; decide)]
  refine wpC_bind (wpC_of (wpAny_of_eq FA.typeCall_barr ?_))
  refine wpC_bind (wpC_of (wpAny_of_eq FA.mro_barr ?_))
  rw [if_neg (by decide)]
  refine wpC_bind (wpC_of (wpAny_of_eq FA.called_barr.made ?_))
  dsimp only
  refine wpC_bind (wpC_pure ?_)
  refine wpC_bind (wpC_holding (wpC_of (wpAny_call (code_barr_new ?_))))
  have hb0 : BA (s.heap.push { cls := .type "bytearray", data := .bytearray #[] }) s.heap.objs.size #[] := ⟨_, Heap.get?_push_size _ rfl, rfl, rfl, rfl⟩
  refine wpC_bind (wpC_of (wpAny_isInstance hb0.typeIs FA.sub_barr ?_))
  rw [if_neg (by decide)]
  refine wpC_bind (wpC_holding ?_)
  simp only [callSpecial?]
  refine wpC_bind (wpC_of (wpAny_specialOf hb0.typeIs FA.slot_bytearray_init.lookup ?_))
  simp only [FA.slot_bytearray_init.bind]
  refine wpC_holding (wpC_bind (wpC_pure (wpC_bind (wpC_call (code_barr_init hb0 fun h' h2 h3 => ?_)))))
  refine wpC_pure ?_
  dsimp only
  rw [if_neg (by decide)]
  refine wpC_pure (h h' h2 fun b o e => h3.extBut b o ?_ (Heap.get?_push_of_some _ e))
  exact Nat.ne_of_lt (Heap.lt_size e)
end

/-- a loop over a list, inside the model -/
theorem wpAny_forIn {M : Model} {A : Around} {E : Value → Shared → Prop} {α β : Type} {f : α → β → Sem (ForInStep β)} (I : List α → β → Shared → Prop) {Q : β → Shared → Prop}
    (step : ∀ x l b s, I (x :: l) b s → wpAny M A (f x b) (fun r s' => ∃ b', r = .yield b' ∧ I l b' s') E s) (fin : ∀ b s, I [] b s → Q b s) :
    ∀ (l : List α) (b : β) (s : Shared), I l b s → wpAny M A (forIn l b f) Q E s
  | [], b, s, h => by rw [List.forIn_nil]; exact wpAny_pure (fin b s h)
  | x :: l, b, s, h => by
    rw [List.forIn_cons]
    refine wpAny_bind (wpAny_mono (step x l b s h) ?_ fun _ _ e => e)
    rintro r s' ⟨b', rfl, h'⟩
    exact wpAny_forIn I step fin l b' s' h'

end Mine
end
section
/-! text G6 -/
open PySem PySem.W PyProof.Rows
set_option Elab.async false
set_option autoImplicit false
set_option maxRecDepth 1000000
namespace Mine
open Sem (wp)
section
variable {prog : Program} {w : World} {A : Around} {E : Value → Shared → Prop} {R : Result → Shared → Prop} {s : Shared}
/-- the parts of a join -/
noncomputable def AreBytes : List Value → List (List Int) → Prop
  | [], ps => ps = []
  | v :: vs, ps => ∃ b t qs, v = .bytes b t ∧ ps = KBw.bInts b :: qs ∧ AreBytes vs qs
theorem AreBytes.get : ∀ {vals : List Value} {ps : List (List Int)}, AreBytes vals ps → ∀ (i : Nat) (x : Value), vals[i]? = some x → ∃ b t, x = .bytes b t ∧ ps[i]? = some (KBw.bInts b)
  | [], _, _, i, x, e => by simp at e
  | v :: vs, _, h, i, x, e => by
    simp only [AreBytes] at h
    obtain ⟨b, t, qs, rfl, rfl, h⟩ := h
    cases i with
    | zero => simp at e; subst e; exact ⟨b, t, rfl, by simp⟩
    | succ i =>
      simp at e
      obtain ⟨b', t', h1, h2⟩ := AreBytes.get h i x e
      exact ⟨b', t', h1, by simpa using h2⟩
theorem AreBytes.len : ∀ {vals : List Value} {ps : List (List Int)}, AreBytes vals ps → vals.length = ps.length
  | [], _, h => by simp only [AreBytes] at h; subst h; rfl
  | v :: vs, _, h => by
    simp only [AreBytes] at h
    obtain ⟨b, t, qs, rfl, rfl, h⟩ := h
    simp [AreBytes.len h]
theorem joined_go : ∀ (parts : List (Array UInt8)) (k : Nat) (acc : Array UInt8),
    ((parts.zipIdx k).foldl (fun out (p, i) => (if i > 0 then out ++ #[] else out) ++ p) acc).toList = acc.toList ++ (parts.map (·.toList)).flatten
  | [], _, acc => by simp
  | p :: ps, k, acc => by
    rw [List.zipIdx_cons, List.foldl_cons, joined_go ps]
    have e : (if k > 0 then acc ++ #[] else acc) = acc := by split <;> simp
    show ((if k > 0 then acc ++ #[] else acc) ++ p).toList ++ _ = _
    rw [e]
    simp
theorem joined_ints {parts : Array (Array UInt8)} {ps : List (List Int)} (h : parts.toList.map KBw.bInts = ps) : KBw.bInts (Builtin.Bytes.joined #[] parts.toList) = ps.flatten := by
  have e : (Builtin.Bytes.joined #[] parts.toList).toList = (parts.toList.map (·.toList)).flatten := by
    have := joined_go parts.toList 0 #[]
    simpa [Builtin.Bytes.joined] using this
  unfold KBw.bInts
  rw [e, ← h, List.map_flatten, List.map_map]
  rfl
theorem fold_size : ∀ (parts : List (Array UInt8)) (k : Nat), parts.foldl (· + ·.size) k = k + (parts.map KBw.bInts).flatten.length
  | [], k => by simp
  | p :: ps, k => by
    rw [List.foldl_cons, fold_size ps, List.map_cons, List.flatten_cons, List.length_append, KBw.ints_length]; lia
theorem joinLetGo_bytes {M : Model} {keep : List Value} {Q : Unit → Shared → Prop} : ∀ (taken : List (Value × Option Value)), (∀ p ∈ taken, p.2 = none) → Q () s → wpAny M A (Builtin.Bytes.joinLetGo taken keep) Q E s
  | [], _, h => by unfold Builtin.Bytes.joinLetGo; exact wpAny_pure h
  | (x, w) :: rest, hw, h => by
    have e : w = none := hw (x, w) List.mem_cons_self
    subst e
    unfold Builtin.Bytes.joinLetGo
    dsimp only
    first
      | exact wpAny_bind (wpAny_letGo (joinLetGo_bytes rest (fun p hp => hw p (List.mem_cons_of_mem _ hp)) h))
      | exact wpAny_bind (wpAny_pure (wpAny_bind (wpAny_letGo (joinLetGo_bytes rest (fun p hp => hw p (List.mem_cons_of_mem _ hp)) h))))
theorem m_one {γ : Type} (x : Value) (f : Value → γ) (g : Array Value → γ) : PySem.Builtin.Bytes.joinM.match_1 (fun _ => γ) ([x] : List Value).toArray f g = f x := rfl
theorem m_many {γ : Type} (vals : List Value) (f : Value → γ) (g : Array Value → γ) (h : vals.length ≠ 1) : PySem.Builtin.Bytes.joinM.match_1 (fun _ => γ) vals.toArray f g = g vals.toArray := by
  rcases vals with _ | ⟨x, _ | ⟨y, r⟩⟩
  · rfl
  · simp at h
  · rfl
theorem bytes_join {l : Addr} {vals : List Value} {ps : List (List Int)} {t : Tok} {Q : Value → Shared → Prop} (hl : s.heap.IsList l vals.toArray) (hp : AreBytes vals ps) (hz : ps.flatten.length ≤ sizeLine)
    (h : ∀ b t' k, KBw.bInts b = ps.flatten → Q (.bytes b t') { s with toks := k }) : wpAny (model prog w) A (call (.builtin "bytes.join") [.bytes #[] t, .ref l]) Q E s := by
  obtain ⟨o, ho, hc, n, hd⟩ := id hl
  refine wpAny_call_entry FA.slot_bytes_join (PySem.W.typeIs_bytes _ _ _) FA.entry_bytes_join ?_ (FA.args_bytes_join _ _)
  unfold Builtin.«bytes.join» Builtin.Bytes.joinM
  dsimp only
  refine wpAny_bind (m := selfAndOne _ _) (wpAny_pure ?_)
  dsimp only
  refine wpAny_bind (m := Builtin.Bytes.joinItems (.ref l)) ?_
  unfold Builtin.Bytes.joinItems
  refine wpAny_bind (wpAny_typeOf hl.typeIs ?_)
  refine bm_if_true (by decide) ?_
  refine wpAny_pure ?_
  have seqs : ∀ {s' : Shared} {Q' : Option (Array Value) → Shared → Prop}, s'.heap = s.heap → Q' (some vals.toArray) s' → wpAny (model prog w) A.in1 (seqItems? (.ref l)) Q' E s' := fun e h' => by
    unfold seqItems?
    refine wpAny_bind (wpAny_load (by rw [e]; exact ho) ?_)
    rw [hd]
    exact wpAny_pure h'
  refine wpAny_bind (seqs rfl ?_)
  dsimp only
  refine bm_if_true (by decide) ?_
  by_cases h1 : vals.length = 1
  · obtain ⟨x, rfl⟩ := List.length_eq_one_iff.mp h1
    rw [m_one]
    simp only [AreBytes] at hp
    obtain ⟨b, t', qs, rfl, rfl, rfl⟩ := hp
    refine wpAny_bind (wpAny_typeOf (PySem.W.typeIs_bytes _ _ _) ?_)
    refine bm_if_true (by decide) ?_
    refine wpAny_bind (wpAny_rule (wpAny_pure ⟨_, rfl, h b t' s.toks (by simp)⟩))
  · have hlen := hp.len
    rw [m_many vals _ _ h1]
    refine wpAny_bind ?_
    rw [Std.Legacy.Range.forIn_eq_forIn_range']
    refine wpAny_forIn (fun rest (st : Array (Array UInt8) × List (Value × Option Value)) s' => ∃ i, rest = List.range' i (vals.length - i) ∧ i ≤ vals.length ∧ s'.heap = s.heap ∧ (∃ k, s' = { s with toks := k }) ∧ st.1.toList.map KBw.bInts = ps.take i ∧
      ∀ p ∈ st.2, p.2 = none ∧ ∃ b t, p.1 = .bytes b t) ?_ ?_ _ _ _ ⟨0, by simp [Std.Legacy.Range.size], Nat.zero_le _, rfl, ⟨s.toks, rfl⟩, by simp, by simp⟩
    · rintro x rest ⟨parts, taken⟩ s' ⟨i, hr, hi, hh, ⟨k, rfl⟩, hps, htk⟩
      have hlt : i < vals.length := by
        rcases Nat.lt_or_ge i vals.length with h | h
        · exact h
        · rw [Nat.sub_eq_zero_of_le h] at hr; simp at hr
      obtain ⟨rfl, hrest⟩ : x = i ∧ rest = List.range' (i + 1) (vals.length - (i + 1)) := by
        have e : vals.length - i = (vals.length - (i + 1)) + 1 := by lia
        rw [e, List.range'_succ] at hr
        injection hr with h1 h2
        exact ⟨h1, h2⟩
      obtain ⟨b, t', hx, hpx⟩ := hp.get x vals[x] (List.getElem?_eq_getElem hlt)
      refine wpAny_bind (seqs rfl ?_)
      dsimp only
      have hx' : vals.toArray.getD x Value.none = .bytes b t' := by simp [hlt, hx]
      rw [hx']
      have hany : (taken.any fun x => x.1.onHeap) = false := by
        rw [List.any_eq_false]
        intro p hp'
        obtain ⟨_, b', t'', e⟩ := htk p hp'
        rw [e]
        exact Bool.false_ne_true
      refine bm_if_false (by rw [hany]; decide) ?_
      refine wpAny_bind (wpAny_holding (take_bytes ?_))
      dsimp only
      refine wpAny_bind (seqs rfl ?_)
      dsimp only
      refine bm_if_false (by simp) ?_
      refine wpAny_pure ⟨_, rfl, x + 1, hrest, hlt, rfl, ⟨_, rfl⟩, ?_, ?_⟩
      · rw [Array.toList_push, List.map_append, hps, List.take_add_one, hpx]; rfl
      · intro p hp'
        rcases List.mem_append.mp hp' with hp' | hp'
        · exact htk p hp'
        · rw [List.mem_singleton.mp hp']; exact ⟨rfl, b, t', rfl⟩
    · rintro ⟨parts, taken⟩ s' ⟨i, hr, hi, hh, ⟨k, rfl⟩, hps, htk⟩
      have hin : i = vals.length := by
        rcases Nat.lt_or_ge i vals.length with h | h
        · have e : vals.length - i = (vals.length - (i + 1)) + 1 := by lia
          rw [e, List.range'_succ] at hr; exact nomatch hr
        · exact Nat.le_antisymm hi h
      rw [hin, hlen, List.take_length] at hps
      refine wpAny_bind (m := Builtin.Bytes.payload (.bytes #[] t)) (wpAny_of_eq (a := #[]) rfl ?_)
      have hfold : parts.foldl (· + ·.size) ((#[] : Array UInt8).size * (parts.size - 1)) = ps.flatten.length := by
        rw [← Array.foldl_toList, fold_size, hps]; simp
      refine bm_if_false (by rw [hfold]; simp only [Builtin.Bytes.tooLong, decide_eq_false_iff_not]; lia) ?_
      refine wpAny_bind (m := Builtin.Bytes.Kind.new _ _) ?_
      have hj := joined_ints (parts := parts) hps
      refine wpAny_mkBytes ?_ (by rw [← KBw.ints_length, hj]; exact hz)
      refine wpAny_bind (wpAny_holding (wpAny_point ?_))
      refine wpAny_bind (joinLetGo_bytes taken (fun p hp' => (htk p hp').1) ?_)
      exact wpAny_pure ⟨_, rfl, h _ _ _ hj⟩
end
end Mine
end
section
/-! text F8 -/
open PySem PySem.W PyProof.Rows
set_option Elab.async false
set_option autoImplicit false
set_option linter.unusedVariables false
namespace Mine
open Sem (wp)

/-! what stands where -/
noncomputable def listOf (v : V) (st : St) : Option (List V) := match v with
  | .lst vs => some vs
  | .ref k => match st.cells[k]? with
    | some (.list vs) => some vs
    | _ => none
  | _ => none
noncomputable def barrOf (v : V) (st : St) : Option (List Int) := match v with
  | .ref k => match st.cells[k]? with
    | some (.barr ks) => some ks
    | _ => none
  | _ => none
noncomputable def intsOf : List V → Option (List Int)
  | [] => some []
  | .int i :: vs => (intsOf vs).map (i :: ·)
  | _ => none
noncomputable def bytesOf : List V → Option (List (List Int))
  | [] => some []
  | .bytes ks :: vs => (bytesOf vs).map (ks :: ·)
  | _ => none
noncomputable def boolsOf : List V → Option (List Bool)
  | [] => some []
  | .bool b :: vs => (boolsOf vs).map (b :: ·)
  | _ => none

section
variable {prog : Program} {Φ : Act} {lv : Nat} {σ : List Addr} {imm : List (Addr × Obj)} {st : St} {s : Shared}
theorem Rel.listAt (r : Rel prog Φ σ imm st s) {v : V} {x : Value} {vs : List V} (h : VR (kno imm Φ.Hk) σ v x) (e : listOf v st = some vs) :
    ∃ a vals, x = .ref a ∧ s.heap.IsList a vals.toArray ∧ VRs (kno imm Φ.Hk) σ vs vals := by
  unfold listOf at e
  split at e
  · cases e
    simp only [VR] at h
    obtain ⟨a, o, n, vals, rfl, hk, hc, hd, hv⟩ := h
    exact ⟨a, vals, rfl, ⟨o, r.known hk, hc, n, hd⟩, hv⟩
  · rename_i k
    split at e
    · rename_i vs' hc
      cases e
      simp only [VR] at h
      obtain ⟨a, ha, rfl⟩ := h
      obtain ⟨o, ho, h1, h2, n, vals, h3, h4⟩ := r.cells k a _ ha hc
      exact ⟨a, vals, rfl, ⟨o, ho, h1, n, h3⟩, h4⟩
    · cases e
  · cases e
theorem Rel.barrAt (r : Rel prog Φ σ imm st s) {v : V} {x : Value} {ks : List Int} (h : VR (kno imm Φ.Hk) σ v x) (e : barrOf v st = some ks) :
    ∃ k a b, v = .ref k ∧ σ[k]? = some a ∧ x = .ref a ∧ BA s.heap a b ∧ KBw.bInts b = ks := by
  unfold barrOf at e
  split at e
  · rename_i k
    split at e
    · rename_i ks' hc
      cases e
      simp only [VR] at h
      obtain ⟨a, ha, rfl⟩ := h
      obtain ⟨o, ho, h1, h2, b, h3, h4⟩ := r.cells k a _ ha hc
      exact ⟨k, a, b, rfl, ha, rfl, ⟨o, ho, h1, h2, h3⟩, h4⟩
    · cases e
  · cases e
theorem ints_are {kn : Addr → Obj → Prop} {σ : List Addr} : ∀ {vs : List V} {xs : List Value} {ns : List Int}, VRs kn σ vs xs → intsOf vs = some ns → IntsAre xs ns
  | [], _, ns, h, e => by
    simp only [VRs] at h; subst h; cases e; exact .nil
  | v :: vs, _, ns, h, e => by
    simp only [VRs] at h
    obtain ⟨y, ys, rfl, hv, hs⟩ := h
    unfold intsOf at e
    split at e
    · cases ‹_ :: _ = []›
    · rename_i i vs' e1
      cases e1
      obtain ⟨ms, hm, rfl⟩ := Option.map_eq_some_iff.mp e
      simp only [VR] at hv
      obtain ⟨t, rfl⟩ := hv
      exact .cons _ _ (ints_are hs hm)
    · cases e
theorem bytes_are {kn : Addr → Obj → Prop} {σ : List Addr} : ∀ {vs : List V} {xs : List Value} {ns : List (List Int)}, VRs kn σ vs xs → bytesOf vs = some ns → AreBytes xs ns
  | [], _, ns, h, e => by
    simp only [VRs] at h; subst h; cases e; simp only [AreBytes]
  | v :: vs, _, ns, h, e => by
    simp only [VRs] at h
    obtain ⟨y, ys, rfl, hv, hs⟩ := h
    unfold bytesOf at e
    split at e
    · cases ‹_ :: _ = []›
    · rename_i i vs' e1
      cases e1
      obtain ⟨ms, hm, rfl⟩ := Option.map_eq_some_iff.mp e
      simp only [VR] at hv
      obtain ⟨b, t, rfl, rfl⟩ := hv
      exact ⟨_, _, _, rfl, rfl, bytes_are hs hm⟩
    · cases e
theorem bools_are {kn : Addr → Obj → Prop} {σ : List Addr} : ∀ {vs : List V} {xs : List Value} {ns : List Bool}, VRs kn σ vs xs → boolsOf vs = some ns → xs = ns.map .bool
  | [], _, ns, h, e => by
    simp only [VRs] at h; subst h; cases e; rfl
  | v :: vs, _, ns, h, e => by
    simp only [VRs] at h
    obtain ⟨y, ys, rfl, hv, hs⟩ := h
    unfold boolsOf at e
    split at e
    · cases ‹_ :: _ = []›
    · rename_i i vs' e1
      cases e1
      obtain ⟨ms, hm, rfl⟩ := Option.map_eq_some_iff.mp e
      simp only [VR] at hv
      subst hv
      rw [List.map_cons, bools_are hs hm]
    · cases e

/-! calls of built-ins, as data -/
noncomputable def octs (ns : List Int) : Bool := ns.all fun n => decide (0 ≤ n ∧ n < 256)
noncomputable def fLen : List V → Mo V
  | [v], st => match v with
    | .bytes ks => if ks.length ≤ 1048576 then .ok (.int ks.length) st else .fail
    | v => match listOf v st with
      | some vs => if vs.length ≤ 1048576 then .ok (.int vs.length) st else .fail
      | none => match barrOf v st with
        | some ks => if ks.length ≤ 1048576 then .ok (.int ks.length) st else .fail
        | none => .fail
  | _, _ => .fail
noncomputable def fMin : List V → Mo V
  | [.int a, .int b], st => .ok (.int (if b < a then b else a)) st
  | _, _ => .fail
noncomputable def fMax : List V → Mo V
  | [.int a, .int b], st => .ok (.int (if b > a then b else a)) st
  | _, _ => .fail
noncomputable def fAbs : List V → Mo V
  | [.int a], st => .ok (.int (if a < 0 then -a else a)) st
  | _, _ => .fail
noncomputable def fInt : List V → Mo V
  | [.bool b], st => .ok (.int (if b then 1 else 0)) st
  | _, _ => .fail
noncomputable def fBytes : List V → Mo V
  | [.int n], st => if 0 ≤ n ∧ n ≤ 1048576 then .ok (.bytes (List.replicate n.toNat 0)) st else .fail
  | [v], st => match listOf v st with
    | some vs => match intsOf vs with
      | some ns => if octs ns = true ∧ ns.length ≤ 1048576 then .ok (.bytes ns) st else .fail
      | none => .fail
    | none => match barrOf v st with
      | some ks => if ks.length ≤ 1048576 then .ok (.bytes ks) st else .fail
      | none => .fail
  | _, _ => .fail
noncomputable def fSum : List V → Mo V
  | [v], st => match listOf v st with
    | some vs => match intsOf vs with
      | some ns => .ok (.int ns.sum) st
      | none => .fail
    | none => .fail
  | _, _ => .fail
noncomputable def fAll : List V → Mo V
  | [v], st => match listOf v st with
    | some vs => match boolsOf vs with
      | some bs => .ok (.bool (bs.all id)) st
      | none => .fail
    | none => .fail
  | _, _ => .fail
noncomputable def fBarr : List V → Mo V
  | [], st => .ok (.ref st.cells.length) { st with cells := st.cells ++ [.barr []] }
  | _, _ => .fail

theorem one {vs : V} {xs : List Value} {kn : Addr → Obj → Prop} (h : VRs kn σ [vs] xs) : ∃ x, xs = [x] ∧ VR kn σ vs x := by
  simp only [VRs] at h
  obtain ⟨y, ys, rfl, hv, rfl⟩ := h
  exact ⟨y, rfl, hv⟩
theorem two {a b : V} {xs : List Value} {kn : Addr → Obj → Prop} (h : VRs kn σ [a, b] xs) : ∃ x y, xs = [x, y] ∧ VR kn σ a x ∧ VR kn σ b y := by
  simp only [VRs] at h
  obtain ⟨y, ys, rfl, hv, z, zs, rfl, hw, rfl⟩ := h
  exact ⟨y, z, rfl, hv, hw⟩
theorem bIll {b : Array UInt8} {n : Nat} (h : (KBw.bInts b).length ≤ n) : b.size ≤ n := by rw [KBw.ints_length] at h; exact h
theorem sl_big : 1048576 ≤ sizeLine := by rw [sizeLine_eq]; decide

theorem snd_len (O : Ok prog Φ lv) (r : Rel prog Φ σ imm st s) {vs : List V} {xs : List Value} (h : VRs (kno imm Φ.Hk) σ vs xs) : Snd prog Φ VR (call (.builtin "len") xs) (fLen vs st) σ imm s := by
  unfold fLen
  split
  · rename_i v
    obtain ⟨x, rfl, hx⟩ := one h
    split
    · rename_i ks
      refine Snd.ite fun hc => ?_
      simp only [VR] at hx
      obtain ⟨b, t, rfl, hb⟩ := hx
      refine Snd.leaf rfl (KBw.len_K hb (by lia) (r.mkI _ _ _))
    · split
      · rename_i vs' e
        refine Snd.ite fun hc => ?_
        obtain ⟨a, vals, rfl, hl, hvs⟩ := r.listAt hx e
        have hsz : vals.toArray.size = vs'.length := by rw [List.size_toArray, hvs.length]
        have key := Snd.leaf (prog := prog) (Φ := Φ) (ρ := VR) (σ := σ) (imm := imm) (s := s) (r := R.ok (V.int vs'.length) st) rfl (Calls.call_len_list (items := vals.toArray) hl (by rw [hsz]; lia) (by rw [hsz]; exact r.mkI _ _ _))
        exact key
      · rename_i e
        split
        · rename_i ks e2
          refine Snd.ite fun hc => ?_
          obtain ⟨k, a, b, rfl, ha, rfl, hb, rfl⟩ := r.barrAt hx e2
          have key := Snd.leaf (prog := prog) (Φ := Φ) (ρ := VR) (σ := σ) (imm := imm) (s := s) (r := R.ok (V.int (KBw.bInts b).length) st) rfl (barr_len (prog := prog) (w := Φ.w) (A := Φ.A) (E := fun _ _ => False) hb (by have := bIll hc; lia) (by rw [KBw.ints_length]; exact r.mkI _ _ _))
          exact key
        · exact Snd.fail
  · exact Snd.fail
theorem snd_min (O : Ok prog Φ lv) (r : Rel prog Φ σ imm st s) {vs : List V} {xs : List Value} (h : VRs (kno imm Φ.Hk) σ vs xs) : Snd prog Φ VR (call (.builtin "min") xs) (fMin vs st) σ imm s := by
  unfold fMin
  split
  · rename_i a b
    obtain ⟨x, y, rfl, hx, hy⟩ := two h
    simp only [VR] at hx hy
    obtain ⟨t, rfl⟩ := hx
    obtain ⟨u, rfl⟩ := hy
    refine Snd.leaf rfl (PySem.min_two_ints O.hh fun h' tk hk => ?_)
    have r' : Rel prog Φ σ imm st { s with heap := h', toks := tk } := r.grow hk rfl rfl rfl
    by_cases hlt : b < a
    · rw [if_pos hlt, if_pos hlt]; exact r'.here .int
    · rw [if_neg hlt, if_neg hlt]; exact r'.here .int
  · exact Snd.fail
theorem snd_max (O : Ok prog Φ lv) (r : Rel prog Φ σ imm st s) {vs : List V} {xs : List Value} (h : VRs (kno imm Φ.Hk) σ vs xs) : Snd prog Φ VR (call (.builtin "max") xs) (fMax vs st) σ imm s := by
  unfold fMax
  split
  · rename_i a b
    obtain ⟨x, y, rfl, hx, hy⟩ := two h
    simp only [VR] at hx hy
    obtain ⟨t, rfl⟩ := hx
    obtain ⟨u, rfl⟩ := hy
    refine Snd.leaf rfl (PySem.max_two_ints O.hh fun h' tk hk => ?_)
    have r' : Rel prog Φ σ imm st { s with heap := h', toks := tk } := r.grow hk rfl rfl rfl
    by_cases hlt : b > a
    · rw [if_pos hlt, if_pos hlt]; exact r'.here .int
    · rw [if_neg hlt, if_neg hlt]; exact r'.here .int
  · exact Snd.fail
theorem snd_abs (O : Ok prog Φ lv) (r : Rel prog Φ σ imm st s) {vs : List V} {xs : List Value} (h : VRs (kno imm Φ.Hk) σ vs xs) : Snd prog Φ VR (call (.builtin "abs") xs) (fAbs vs st) σ imm s := by
  unfold fAbs
  split
  · obtain ⟨x, rfl, hx⟩ := one h
    simp only [VR] at hx
    obtain ⟨t, rfl⟩ := hx
    exact Snd.leaf rfl (call_abs_int fun u tk => r.mkI _ _ _)
  · exact Snd.fail
theorem snd_int (O : Ok prog Φ lv) (r : Rel prog Φ σ imm st s) {vs : List V} {xs : List Value} (h : VRs (kno imm Φ.Hk) σ vs xs) : Snd prog Φ VR (call (.type "int") xs) (fInt vs st) σ imm s := by
  unfold fInt
  split
  · obtain ⟨x, rfl, hx⟩ := one h
    simp only [VR] at hx
    subst hx
    exact Snd.leaf rfl (call_int_bool (r.mkI _ _ _))
  · exact Snd.fail
theorem octs_in {ns : List Int} (h : octs ns = true) : ∀ n ∈ ns, 0 ≤ n ∧ n < 256 := fun n hn => by
  unfold octs at h
  simpa using List.all_eq_true.mp h n hn
theorem bInts_rep (n : Nat) : KBw.bInts (Array.replicate n 0) = List.replicate n 0 := by
  unfold KBw.bInts; simp
theorem snd_bytes (O : Ok prog Φ lv) (r : Rel prog Φ σ imm st s) {vs : List V} {xs : List Value} (h : VRs (kno imm Φ.Hk) σ vs xs) : Snd prog Φ VR (call (.type "bytes") xs) (fBytes vs st) σ imm s := by
  unfold fBytes
  split
  · obtain ⟨x, rfl, hx⟩ := one h
    refine Snd.ite fun hc => ?_
    simp only [VR] at hx
    obtain ⟨t, rfl⟩ := hx
    exact Snd.leaf rfl (bytes_count hc.1 hc.2 fun t k => r.give _ (.bytes' (bInts_rep _)))
  · rename_i v hv
    obtain ⟨x, rfl, hx⟩ := one h
    split
    · rename_i vs' e
      split
      · rename_i ns e2
        refine Snd.ite fun hc => ?_
        obtain ⟨a, vals, rfl, hl, hvs⟩ := r.listAt hx e
        have hi := ints_are hvs e2
        have hsz := sl_big
        have key := Snd.leaf (prog := prog) (Φ := Φ) (ρ := VR) (σ := σ) (imm := imm) (s := s) (r := R.ok (V.bytes ns) st) rfl
          (call_bytes_ints (prog := prog) (w := Φ.w) (A := Φ.A) (E := fun _ _ => False) hl hi (octs_in hc.1) (by rw [hi.length]; lia) O.hh fun h' t k hk => (r.grow (s' := { s with heap := h', toks := k }) hk rfl rfl rfl).here (.bytes' (KBa.ints_make (octs_in hc.1))))
        exact key
      · exact Snd.fail
    · rename_i e
      split
      · rename_i ks e2
        refine Snd.ite fun hc => ?_
        obtain ⟨k, a, b, rfl, ha, rfl, hb, rfl⟩ := r.barrAt hx e2
        have hsz := sl_big
        have key := Snd.leaf (prog := prog) (Φ := Φ) (ρ := VR) (σ := σ) (imm := imm) (s := s) (r := R.ok (V.bytes (KBw.bInts b)) st) rfl
          (bytes_barr (prog := prog) (w := Φ.w) (A := Φ.A) (E := fun _ _ => False) hb (by have := bIll hc; lia) fun t k => r.give _ .bytes)
        exact key
      · exact Snd.fail
  · exact Snd.fail
theorem snd_barr (O : Ok prog Φ lv) (r : Rel prog Φ σ imm st s) {vs : List V} {xs : List Value} (h : VRs (kno imm Φ.Hk) σ vs xs) : Snd prog Φ VR (call (.type "bytearray") xs) (fBarr vs st) σ imm s := by
  unfold fBarr
  split
  · simp only [VRs] at h
    subst h
    refine Snd.leafC rfl (barr_make fun h' hba hk => ?_)
    obtain ⟨o, ho, hc, hd, hdt⟩ := hba
    have r' : Rel prog Φ σ imm st { s with heap := h' } := r.grow hk rfl rfl rfl
    obtain ⟨h1, h2, h3, h4, h5⟩ := r.free (get_size s.heap)
    have hp : σ <+: σ ++ [s.heap.objs.size] := List.prefix_append _ _
    refine ⟨σ ++ [s.heap.objs.size], imm, hp, .refl _, r'.addCell ho ⟨hc, hd, #[], hdt, rfl⟩ h1 h2 h3 h4 h5 r.sysNe, ?_⟩
    simp only [VR]
    refine ⟨_, ?_, rfl⟩
    rw [← r.len, List.getElem?_concat_length]
  · exact Snd.fail
end
end Mine
end
section
/-! text F9 -/
open PySem PySem.W PyProof.Rows
set_option Elab.async false
set_option autoImplicit false
set_option linter.unusedVariables false
namespace Mine
open Sem (wp)

section
variable {prog : Program} {Φ : Act} {lv : Nat} {σ : List Addr} {imm : List (Addr × Obj)} {st : St} {s : Shared}
theorem snd_sum (O : Ok prog Φ lv) (r : Rel prog Φ σ imm st s) {vs : List V} {xs : List Value} (h : VRs (kno imm Φ.Hk) σ vs xs) : Snd prog Φ VR (call (.builtin "sum") xs) (fSum vs st) σ imm s := by
  unfold fSum
  split
  · rename_i v
    obtain ⟨x, rfl, hx⟩ := one h
    split
    · rename_i vs' e
      split
      · rename_i ns e2
        obtain ⟨a, vals, rfl, hl, hvs⟩ := r.listAt hx e
        have hi := ints_are hvs e2
        obtain ⟨xs, hxs⟩ := hi.allInts.items
        rw [hxs] at hl
        refine Snd.leaf rfl (sum_intListG O.hh hl fun h' tk t' hk => ?_)
        have r' : Rel prog Φ σ imm st { s with heap := h', toks := tk } := r.grow hk rfl rfl rfl
        have e3 : preSum (numAt xs) xs.size = ns.sum := by
          rw [preSum_eq, List.take_of_length_le (by simp), ← nums_intItems, ← hxs]
          show (numsOf vals).sum = _
          rw [hi.numsOf]
        rw [e3]
        exact r'.here .int
      · exact Snd.fail
    · exact Snd.fail
  · exact Snd.fail
theorem snd_all (O : Ok prog Φ lv) (r : Rel prog Φ σ imm st s) {vs : List V} {xs : List Value} (h : VRs (kno imm Φ.Hk) σ vs xs) : Snd prog Φ VR (call (.builtin "all") xs) (fAll vs st) σ imm s := by
  unfold fAll
  split
  · rename_i v
    obtain ⟨x, rfl, hx⟩ := one h
    split
    · rename_i vs' e
      split
      · rename_i bs e2
        obtain ⟨a, vals, rfl, hl, hvs⟩ := r.listAt hx e
        have hb := bools_are hvs e2
        have hlt : a < s.heap.objs.size := by obtain ⟨_, e, _⟩ := hl; exact Heap.lt_size e
        refine Snd.leaf rfl (call_all_walk (wpAny_pyIter_list hl ?_))
        refine ⟨_, [s.heap.objs.size, a], [s.heap.objs.size], _, _, _, fun i => (bs[i]?).getD false, rfl, Walks.list (A := Φ.A.in1) O.hh _ a (Nat.ne_of_lt hlt) vals.toArray, ⟨⟨_, Heap.get?_push_size _ rfl, rfl, rfl⟩, hl.push _⟩, ?_, fun h' tk hk => ?_⟩
        · intro i v s' Q E hP hQ
          rw [hb] at hP
          have hP' : (bs.map Value.bool)[i]? = some v := by simpa using hP
          rw [List.getElem?_map] at hP'
          cases hb' : bs[i]? with
          | none => rw [hb'] at hP'; cases hP'
          | some b =>
            rw [hb'] at hP'
            cases hP'
            simp only [hb', Option.getD_some] at hQ
            exact wpAny_truthy_bool hQ
        · have r' : Rel prog Φ σ imm st { s with heap := h', toks := tk } := r.grow (old_kept hk) rfl rfl rfl
          have e3 : ((List.range vals.toArray.size).all fun i => (bs[i]?).getD false) = bs.all id := by
            have hn : vals.toArray.size = bs.length := by rw [hb]; simp
            rw [hn]
            rw [Bool.eq_iff_iff, List.all_eq_true, List.all_eq_true]
            constructor
            · intro hh x hx
              obtain ⟨i, hi, rfl⟩ := List.getElem_of_mem hx
              have := hh i (List.mem_range.mpr hi)
              rw [List.getElem?_eq_getElem hi] at this
              exact this
            · intro hh i hi
              have hi' := List.mem_range.mp hi
              rw [List.getElem?_eq_getElem hi']
              exact hh _ (List.getElem_mem hi')
          rw [e3]
          exact r'.here .bool
      · exact Snd.fail
    · exact Snd.fail
  · exact Snd.fail

/-! displays -/
noncomputable def mTup (d : Mo (List V)) : Mo V := fun st => (d st).bind fun vs st => if vs.length ≤ 1048576 then .ok (.tup vs) st else .fail
noncomputable def mLst (d : Mo (List V)) : Mo V := fun st => (d st).bind fun vs st => if vs.length ≤ 1048576 then .ok (.lst vs) st else .fail
noncomputable def mLstC (d : Mo (List V)) : Mo V := fun st => (d st).bind fun vs st => if vs.length ≤ 1048576 then .ok (.ref st.cells.length) { st with cells := st.cells ++ [.list vs] } else .fail
noncomputable def mDictC : Mo V := fun st => .ok (.ref st.cells.length) { st with cells := st.cells ++ [.dict (fun _ => none) 0] }
theorem wpC_newObj_type {M : Model} {A : Around} {E : Value → Shared → Prop} {s : Shared} {n : String} {d : Data} {Q : Value → Shared → Prop} (h : Q (.ref s.heap.objs.size) { s with heap := s.heap.push { cls := .type n, data := d } })
    (hd : sizeOk d) : wpC M A (newObj (.type n) d) Q E s := wpC_of (wpAny_newObj_type h hd)
theorem SE_tup {elts : List Expr} {k : Nat} {pos : Pos} {d : Mo (List V)} (h : SEs prog Φ (backTo pos (starEach elts Φ.env)) d) : SE prog Φ (.Tuple elts k pos) (mTup d) := fun σ imm st s r => by
  rw [arm_eval_Tuple]
  refine Snd.stand (Snd.bind (h _ _ _ _ r) fun vs st' σ' imm' xs s' _ _ _ r' hv => ?_)
  refine Snd.ite fun hc => ?_
  have hsz := sl_big
  refine Snd.leafC (β := V) rfl (wpC_newObj_type (d := .seq xs.toArray) ?_ (by show xs.toArray.size ≤ sizeLine; rw [List.size_toArray, hv.length]; lia))
  have r'' := r'.pushImm { cls := .type "tuple", data := .seq xs.toArray } rfl s'.toks
  refine ⟨σ', _, List.prefix_refl _, .of_sub fun p hp => List.mem_append_left _ hp, r'', ?_⟩
  simp only [VR]
  exact ⟨_, _, 0, xs, rfl, .inl (List.mem_append_right _ (List.mem_singleton.mpr rfl)), rfl, rfl, hv.mono (kno.le fun p hp => List.mem_append_left _ hp) (List.prefix_refl _)⟩
theorem SE_lst {elts : List Expr} {pos : Pos} {d : Mo (List V)} (h : SEs prog Φ (backTo pos (starEach elts Φ.env)) d) : SE prog Φ (.List elts pos) (mLst d) := fun σ imm st s r => by
  rw [arm_eval_List]
  refine Snd.stand (Snd.bind (h _ _ _ _ r) fun vs st' σ' imm' xs s' _ _ _ r' hv => ?_)
  refine Snd.ite fun hc => ?_
  have hsz := sl_big
  refine Snd.leafC (β := V) rfl (wpC_newObj_type (d := .seq xs.toArray) ?_ (by show xs.toArray.size ≤ sizeLine; rw [List.size_toArray, hv.length]; lia))
  have r'' := r'.pushImm { cls := .type "list", data := .seq xs.toArray } rfl s'.toks
  refine ⟨σ', _, List.prefix_refl _, .of_sub fun p hp => List.mem_append_left _ hp, r'', ?_⟩
  simp only [VR]
  exact ⟨_, _, 0, xs, rfl, .inl (List.mem_append_right _ (List.mem_singleton.mpr rfl)), rfl, rfl, hv.mono (kno.le fun p hp => List.mem_append_left _ hp) (List.prefix_refl _)⟩
theorem SE_lstC {elts : List Expr} {pos : Pos} {d : Mo (List V)} (h : SEs prog Φ (backTo pos (starEach elts Φ.env)) d) : SE prog Φ (.List elts pos) (mLstC d) := fun σ imm st s r => by
  rw [arm_eval_List]
  refine Snd.stand (Snd.bind (h _ _ _ _ r) fun vs st' σ' imm' xs s' _ _ _ r' hv => ?_)
  refine Snd.ite fun hc => ?_
  have hsz := sl_big
  refine Snd.leafC (β := V) rfl (wpC_newObj_type (d := .seq xs.toArray) ?_ (by show xs.toArray.size ≤ sizeLine; rw [List.size_toArray, hv.length]; lia))
  have hp : σ' <+: σ' ++ [s'.heap.objs.size] := List.prefix_append _ _
  have r'' := r'.pushCell (o := { cls := .type "list", data := .seq xs.toArray }) (c := .list vs) rfl s'.toks ⟨rfl, rfl, 0, xs, rfl, hv.mono (KnLe.refl _) hp⟩
  refine ⟨_, imm', hp, .refl _, r'', ?_⟩
  simp only [VR]
  refine ⟨_, ?_, rfl⟩
  rw [← r'.len, List.getElem?_concat_length]
theorem SE_dictC {pos : Pos} : SE prog Φ (.Dict [] [] pos) mDictC := fun σ imm st s r => by
  refine Snd.leaf (β := V) rfl (wpAny_Dict_empty ?_)
  have hp : σ <+: σ ++ [s.heap.objs.size] := List.prefix_append _ _
  have r'' := r.pushCell (o := { cls := .type "dict", data := .dict #[] }) (c := .dict (fun _ => none) 0) rfl s.toks ⟨⟨rfl, rfl, rfl⟩, #[], 0, rfl, fun e he => absurd he (by simp), Nat.le_refl _, fun k => by simp [findBy]⟩
  refine ⟨_, imm, hp, .refl _, r'', ?_⟩
  simp only [VR]
  refine ⟨_, ?_, rfl⟩
  rw [← r.len, List.getElem?_concat_length]

/-! subscripts -/
noncomputable def subV : V → V → Mo V
  | .bytes ks, .int i, st => if 0 ≤ i ∧ i < ks.length ∧ ks.length ≤ 1048576 then .ok (.int (ks.getD i.toNat 0)) st else .fail
  | .tup vs, .int i, st => if 0 ≤ i ∧ i < vs.length ∧ vs.length ≤ 1048576 then .ok (vs.getD i.toNat .none) st else .fail
  | v, .int i, st => match listOf v st with
    | some vs => if 0 ≤ i ∧ i < vs.length ∧ vs.length ≤ 1048576 then .ok (vs.getD i.toNat .none) st
      else if i < 0 ∧ -(vs.length : Int) ≤ i ∧ vs.length ≤ 1048576 then .ok (vs.getD (i + vs.length).toNat .none) st else .fail
    | none => match barrOf v st with
      | some ks => if 0 ≤ i ∧ i < ks.length ∧ ks.length ≤ 1048576 then .ok (.int (ks.getD i.toNat 0)) st else .fail
      | none => .fail
  | _, _, _ => .fail
noncomputable def mSub (a b : Mo V) : Mo V := fun st => (a st).bind fun x st => (b st).bind fun y st => subV x y st
theorem getD_eq {vs : List V} {i : Nat} (h : i < vs.length) : vs[i]? = some (vs.getD i .none) := by
  rw [List.getD_eq_getElem?_getD, List.getElem?_eq_getElem h]; rfl

theorem wpAny_subscript {value slice : Expr} {o i : Value} {T id : String} {Q : Value → Shared → Prop} {E : Value → Shared → Prop} {A : Around} {w : World} (hT : s.TypeIs o T)
    (hl : typeLookup (.type T) "__getitem__" = pure (some (.builtin id))) (h : wpAny (model prog w) A (getItem o i) Q E s)
    (hs : ∀ o i, subscripted slice false o i = operate [o, i] (getItem o i) ∨ subscripted slice false o i = operate [i, o] (getItem o i)) :
    wpAny (model prog w) A (do let r ← subscripted slice (← getitemInPython o) o i; letTemporaryGo value o r; pure r) Q E s := by
  refine wpAny_bind ?_
  rw [getitemInPython_of_ne hT.not_modules]
  refine wpAny_bind (wpAny_specialOf hT hl ?_)
  have fin : wpAny (model prog w) A (subscripted slice false o i) (fun r s₃ => wpAny (model prog w) A (letTemporaryGo value o r >>= fun _ => pure r) Q E s₃) E s := by
    rcases hs o i with hs | hs
    · rw [hs]
      exact wpAny_operating (wpAny_mono h (fun r s₃ h₃ => wpAny_bind (wpAny_letTemporaryGo (wpAny_pure h₃))) fun _ _ x => x)
    · rw [hs]
      exact wpAny_operating (wpAny_mono h (fun r s₃ h₃ => wpAny_bind (wpAny_letTemporaryGo (wpAny_pure h₃))) fun _ _ x => x)
  first
    | exact wpAny_pure (wpAny_bind fin)
    | exact wpAny_bind (wpAny_pure (wpAny_bind fin))
    | exact wpAny_bind fin
theorem snd_sub (O : Ok prog Φ lv) (r : Rel prog Φ σ imm st s) {value slice : Expr} {a b : V} {x y : Value} (ha : VR (kno imm Φ.Hk) σ a x) (hb : VR (kno imm Φ.Hk) σ b y)
    (hs : ∀ o i, subscripted slice false o i = operate [o, i] (getItem o i)) :
    Snd prog Φ VR (do let r ← subscripted slice (← getitemInPython x) x y; letTemporaryGo value x r; pure r) (subV a b st) σ imm s := by
  have hs' : ∀ o i, subscripted slice false o i = operate [o, i] (getItem o i) ∨ subscripted slice false o i = operate [i, o] (getItem o i) := fun o i => .inl (hs o i)
  unfold subV
  split
  · rename_i ks i
    refine Snd.ite fun hc => ?_
    obtain ⟨h0, h1, h2⟩ := hc
    simp only [VR] at ha hb
    obtain ⟨b, t, rfl, hk⟩ := ha
    obtain ⟨u, rfl⟩ := hb
    subst hk
    have e : b.toList.toArray = b := Array.toArray_toList
    have hl : b.toList.length = (KBw.bInts b).length := by rw [KBw.ints_length]; simp
    have g : wpAny (model prog Φ.w) Φ.A (getItem (.bytes b.toList.toArray t) (.int i u)) (fun a s' => ∃ σ' imm', σ <+: σ' ∧ ImmLe imm imm' ∧ Rel prog Φ σ' imm' st s' ∧ VR (kno imm' Φ.Hk) σ' (V.int ((KBw.bInts b).getD i.toNat 0)) a) (fun _ _ => False) s := by
      refine getItem_bytes (l := b.toList) (by lia) h0 (by lia) ?_
      have e2 : ((b.toList.getD i.toNat 0).toNat : Int) = (KBw.bInts b).getD i.toNat 0 := by
        unfold KBw.bInts
        rw [List.getD_eq_getElem?_getD, List.getD_eq_getElem?_getD, List.getElem?_map]
        cases b.toList[i.toNat]? <;> rfl
      rw [e2]
      exact r.mkI _ _ _
    rw [e] at g
    exact Snd.leaf rfl (wpAny_subscript (PySem.W.typeIs_bytes _ _ _) FB.slot_bytes_getitem.lookup g hs')
  · rename_i vs i
    refine Snd.ite fun hc => ?_
    obtain ⟨h0, h1, h2⟩ := hc
    simp only [VR] at ha hb
    obtain ⟨a, o, n, vals, rfl, hk, hcl, hd, hv⟩ := ha
    obtain ⟨u, rfl⟩ := hb
    have hlt : i.toNat < vs.length := by lia
    obtain ⟨z, hz, hzv⟩ := hv.get (getD_eq hlt)
    have ht : IsTup s.heap a vals.toArray := ⟨o, r.known hk, hcl, n, hd⟩
    exact Snd.leaf rfl (wpAny_subscript ht.typeIs slot_tuple_getitem.lookup (PyProof.Rows.getItem_tuple (j := i.toNat) ht (by lia) (by lia) (seqIndex_nonneg h0 (by rw [List.size_toArray, hv.length]; exact h1)) (by simpa using hz) (r.here hzv)) hs')
  · rename_i v i hn1 hn2
    simp only [VR] at hb
    obtain ⟨u, rfl⟩ := hb
    split
    · rename_i vs e
      obtain ⟨a, vals, rfl, hl, hv⟩ := r.listAt ha e
      by_cases hc : 0 ≤ i ∧ i < vs.length ∧ vs.length ≤ 1048576
      · rw [if_pos hc]
        obtain ⟨h0, h1, h2⟩ := hc
        have hlt : i.toNat < vs.length := by lia
        obtain ⟨z, hz, hzv⟩ := hv.get (getD_eq hlt)
        have key := Snd.leaf (prog := prog) (Φ := Φ) (ρ := VR) (σ := σ) (imm := imm) (s := s) (r := R.ok (vs.getD i.toNat .none) st) rfl (wpAny_subscript (value := value) hl.typeIs slot_list_getitem.lookup (wpAny_getItem_list (t := u) hl h0 (by lia) (by simpa using hz) (r.here hzv)) hs')
        exact key
      · rw [if_neg hc]
        refine Snd.ite fun hc2 => ?_
        obtain ⟨h0, h1, h2⟩ := hc2
        have hlt : (i + vs.length).toNat < vs.length := by lia
        obtain ⟨z, hz, hzv⟩ := hv.get (getD_eq hlt)
        have hlen := hv.length
        have key := Snd.leaf (prog := prog) (Φ := Φ) (ρ := VR) (σ := σ) (imm := imm) (s := s) (r := R.ok (vs.getD (i + vs.length).toNat .none) st) rfl (wpAny_subscript (value := value) hl.typeIs slot_list_getitem.lookup
          (wpAny_getItem_list_neg (x := z) (t := u) hl h0 (by rw [List.size_toArray, hlen]; exact h1) (by lia) (by rw [List.size_toArray, hlen]; simpa using hz) (r.here hzv)) hs')
        exact key
    · split
      · rename_i ks e2
        refine Snd.ite fun hc => ?_
        obtain ⟨k, a, b, rfl, hka, rfl, hba, rfl⟩ := r.barrAt ha e2
        obtain ⟨h0, h1, h2⟩ := hc
        rw [KBw.ints_length] at h1 h2
        have key := Snd.leaf (prog := prog) (Φ := Φ) (ρ := VR) (σ := σ) (imm := imm) (s := s) (r := R.ok (V.int ((KBw.bInts b).getD i.toNat 0)) st) rfl (wpAny_subscript (value := value) hba.typeIs FA.slot_bytearray_getitem.lookup (barr_getitem (prog := prog) (w := Φ.w) (A := Φ.A) (E := fun _ _ => False) (u := u) hba (by lia) h0 h1 fun t' k => by
          have e2 : ((b.getD i.toNat 0).toNat : Int) = (KBw.bInts b).getD i.toNat 0 := by
            unfold KBw.bInts
            rw [List.getD_eq_getElem?_getD, List.getElem?_map]
            have hlt : i.toNat < b.size := by lia
            simp [hlt]
          rw [e2]
          exact r.mkI _ _ _) hs')
        exact key
      · exact Snd.fail
  · exact Snd.fail
theorem SE_sub (O : Ok prog Φ lv) {value slice : Expr} {da db : Mo V} {pos : Pos} (ha : SE prog Φ value da) (hb : SE prog Φ slice db)
    (hs : ∀ o i, subscripted slice false o i = operate [o, i] (getItem o i)) : SE prog Φ (.Subscript value slice pos) (mSub da db) := fun σ imm st s r => by
  rw [eval_Subscript]
  exact snd2 r ha hb (fun _ {_ _ _ _} h => Snd.holding h) fun r' h1 h2 => Snd.stand (snd_sub O r' h1 h2 hs)
end
end Mine
end
section
/-! text F10 -/
open PySem PySem.W PyProof.Rows
set_option Elab.async false
set_option autoImplicit false
set_option linter.unusedVariables false
namespace Mine
open Sem (wp)

/-! slices -/
noncomputable def cutV {α : Type} (ks : List α) (lo hi : Option Int) : List α := (ks.drop (lo.elim 0 (clipAt ks.length))).take (hi.elim ks.length (clipAt ks.length) - lo.elim 0 (clipAt ks.length))
noncomputable def sliceV : V → Option Int × Option Int → Mo V
  | .bytes ks, p, st => if ks.length ≤ 1048576 then .ok (.bytes (cutV ks p.1 p.2)) st else .fail
  | v, p, st => match listOf v st with
    | some vs => if vs.length ≤ 1048576 then .ok (.lst (cutV vs p.1 p.2)) st else .fail
    | none => .fail
noncomputable def mSome (d : Mo V) : Mo (Option Int) := fun st => (d st).bind fun v st => match v with
  | .int i => .ok (some i) st
  | _ => .fail
noncomputable def mNone : Mo (Option Int) := fun st => .ok none st
noncomputable def mPair {α β : Type} (a : Mo α) (b : Mo β) : Mo (α × β) := fun st => (a st).bind fun x st => (b st).bind fun y st => .ok (x, y) st
noncomputable def mSlice (a : Mo V) (b : Mo (Option Int × Option Int)) : Mo V := fun st => (a st).bind fun x st => (b st).bind fun p st => sliceV x p st

section
variable {prog : Program} {Φ : Act} {lv : Nat} {σ : List Addr} {imm : List (Addr × Obj)} {st : St} {s : Shared}
noncomputable def SEo (prog : Program) (Φ : Act) (x : Option Expr) (d : Mo (Option Int)) : Prop :=
  ∀ σ imm st s, Rel prog Φ σ imm st s → Snd prog Φ (fun _ _ oi v => IsPart v oi) (evalPart x Φ.env) (d st) σ imm s
theorem SEo_none : SEo prog Φ none mNone := fun σ imm st s r => Snd.pure r .none
theorem SEo_some {e : Expr} {d : Mo V} (h : SE prog Φ e d) : SEo prog Φ (some e) (mSome d) := fun σ imm st s r => by
  intro hne
  have hd : d st ≠ .fail := fun e' => hne (by unfold mSome; rw [e']; rfl)
  refine wpC_mono (h _ _ _ _ r hd) ?_ ?_
  · rintro x s' ⟨v, st', σ', imm', e1, h1, h2, h3, h4⟩
    unfold mSome at hne ⊢
    rw [e1] at hne ⊢
    simp only [R.bind] at hne ⊢
    split at hne
    · simp only [VR] at h4
      obtain ⟨t, rfl⟩ := h4
      exact ⟨_, st', σ', imm', rfl, h1, h2, h3, .int _ _⟩
    · exact absurd rfl hne
  · rintro e' s' ⟨q1, q2⟩
    unfold mSome
    rw [q1]
    exact ⟨rfl, q2⟩
theorem VRs.cut {kn : Addr → Obj → Prop} {vs : List V} {xs : List Value} (h : VRs kn σ vs xs) (lo hi : Option Int) : VRs kn σ (cutV vs lo hi) (cutV xs lo hi) := by
  unfold cutV
  rw [h.length]
  exact (h.drop _).take _
theorem snd_slice (r : Rel prog Φ σ imm st s) {value slice : Expr} {a : V} {x i : Value} {p : Option Int × Option Int} (ha : VR (kno imm Φ.Hk) σ a x)
    (hi : ∃ b o l u, i = .ref b ∧ kno imm Φ.Hk b o ∧ o.cls = .type "slice" ∧ o.data = .fields #[l, u, .none] ∧ IsPart l p.1 ∧ IsPart u p.2)
    (hs : ∀ o i, subscripted slice false o i = operate [i, o] (getItem o i)) :
    Snd prog Φ VR (do let r ← subscripted slice (← getitemInPython x) x i; letTemporaryGo value x r; pure r) (sliceV a p st) σ imm s := by
  have hs' : ∀ o i, subscripted slice false o i = operate [o, i] (getItem o i) ∨ subscripted slice false o i = operate [i, o] (getItem o i) := fun o i => .inr (hs o i)
  have hsz := sl_big
  obtain ⟨b, o, l, u, rfl, hk, hc, hd, pl, pu⟩ := hi
  have hS : s.heap.IsSliceOf b l u .none := ⟨o, r.known hk, hc, hd⟩
  unfold sliceV
  split
  · rename_i ks p'
    refine Snd.ite fun hcd => ?_
    simp only [VR] at ha
    obtain ⟨bs, t, rfl, hb⟩ := ha
    refine Snd.leaf rfl (wpAny_subscript (PySem.W.typeIs_bytes _ _ _) FB.slot_bytes_getitem.lookup (getItem_meets (PySem.W.typeIs_bytes _ _ _) (by decide) FB.slot_bytes_getitem FB.entry_bytes_getitem (FB.args_bytes_getitem_2 _ _) (KBc.meets_slice2 bs t b pl pu)
      ⟨hS, Nat.le_trans (KBc.size_picked_le bs _ _) (by rw [← KBw.ints_length bs, hb]; lia), fun t' k => ?_⟩) hs')
    exact r.give k (.bytes' (KBc.ints_picked hb _ _))
  · rename_i v p' hn
    split
    · rename_i vs e
      refine Snd.ite fun hcd => ?_
      obtain ⟨ad, vals, rfl, hl, hv⟩ := r.listAt ha e
      have hlen := hv.length
      have key := Snd.leaf (prog := prog) (Φ := Φ) (ρ := VR) (σ := σ) (imm := imm) (s := s) (r := R.ok (V.lst (cutV vs p.1 p.2)) st) rfl (wpAny_subscript (value := value) (slice := slice) (i := .ref b) hl.typeIs slot_list_getitem.lookup
        (wpAny_getItem_list_slice (hsz := by rw [List.size_toArray, hlen]; lia) hl hS pl pu .none nofun (by
          have r' := r.pushImm { cls := .type "list", data := .seq (slicePick vals.toArray p.1 p.2 none) } rfl s.toks
          refine ⟨σ, _, List.prefix_refl _, .of_sub fun p hp => List.mem_append_left _ hp, r', ?_⟩
          simp only [VR]
          refine ⟨_, _, 0, cutV vals p.1 p.2, rfl, .inl (List.mem_append_right _ (List.mem_singleton.mpr rfl)), rfl, ?_, (hv.cut p.1 p.2).mono (kno.le fun p hp => List.mem_append_left _ hp) (List.prefix_refl _)⟩
          show Data.seq (slicePick vals.toArray p.1 p.2 none) _ = _
          rw [slicePick_plain]
          simp [cutV])) hs')
      exact key
    · exact Snd.fail
theorem SE_slice {value : Expr} {lower upper : Option Expr} {p pos : Pos} {da : Mo V} {dl du : Mo (Option Int)} (ha : SE prog Φ value da) (hl : SEo prog Φ lower dl) (hu : SEo prog Φ upper du) :
    SE prog Φ (.Subscript value (.Slice lower upper none p) pos) (mSlice da (mPair dl du)) := fun σ imm st s r => by
  rw [eval_Subscript]
  refine Snd.bind (ha _ _ _ _ r) fun v st' σ' imm' x s' _ hp1 hi1 r' hv => ?_
  refine Snd.bind (ρ := fun kn _ (p : Option Int × Option Int) i => ∃ b o l u, i = .ref b ∧ kn b o ∧ o.cls = .type "slice" ∧ o.data = .fields #[l, u, .none] ∧ IsPart l p.1 ∧ IsPart u p.2) (Snd.holding ?_) fun p st2 σ2 imm2 i s2 _ hp2 hi2 r2 hi => Snd.stand (snd_slice r2 (hv.mono (kno.leI hi2) hp2) hi fun _ _ => rfl)
  rw [arm_eval_Slice]
  refine Snd.bind (hl _ _ _ _ r') fun lo st2 σ2 imm2 l s2 _ hp2 hi2 r2 hlo => ?_
  refine Snd.bind (Snd.holding (hu _ _ _ _ r2)) fun hi st3 σ3 imm3 u s3 _ hp3 hi3 r3 hhi => ?_
  refine fun _ => wpC_bind (wpC_holding (wpC_pure ?_))
  refine wpC_newObj_type ?_ (by have := sl_big; show (3 : Nat) ≤ sizeLine + 2; lia)
  have r'' := r3.pushImm { cls := .type "slice", data := .fields #[l, u, .none] } rfl s3.toks
  exact ⟨_, st3, σ3, _, rfl, List.prefix_refl _, .of_sub fun p hp => List.mem_append_left _ hp, r'', _, _, l, u, rfl, .inl (List.mem_append_right _ (List.mem_singleton.mpr rfl)), rfl, rfl, hlo, hhi⟩

/-! lists that are not alike -/
noncomputable def neL (a b : V) (st : St) : R V := match listOf a st, listOf b st with
  | some la, some lb => if la.length ≠ lb.length then .ok (.bool true) st else if la = [] then .ok (.bool false) st else match bytesOf la, bytesOf lb with
    | some xs, some ys => .ok (.bool (!(xs == ys))) st
    | _, _ => .fail
  | _, _ => .fail
theorem eqAt_bytes {A : Around} {s : Shared} {b c : Array UInt8} {t u : Tok} : SeqAt.EqAt A s (.bytes b t) (.bytes c u) (KBw.bInts b == KBw.bInts c) := fun prog w E Q h => by
  unfold PySem.eqBool
  refine wpAny_holding ?_
  show wpAny _ _ (if (Value.bytes b t == Value.bytes c u) = true then _ else _) _ E s
  by_cases hab : (Value.bytes b t == Value.bytes c u) = true
  · rw [if_pos hab]
    have e : b = c := by have := eq_of_beq hab; injection this
    subst e
    exact wpAny_bind (wpAny_rule (wpAny_pure (by simpa using h)))
  · rw [if_neg hab]
    rw [← bInts_inj] at h
    exact wpAny_bind (eq_bytes (wpAny_truthy_bool h))
theorem all_range_eq : ∀ {xs ys : List (List Int)} {n : Nat}, xs.length = n → ys.length = n → ((List.range n).all fun i => xs.getD i [] == ys.getD i []) = (xs == ys) := by
  intro xs ys n hx hy
  rw [Bool.eq_iff_iff, List.all_eq_true, beq_iff_eq]
  constructor
  · intro h
    apply List.ext_getElem (by lia)
    intro i h1 h2
    have := h i (List.mem_range.mpr (by lia))
    simpa [List.getD_eq_getElem?_getD, h1, h2] using this
  · intro h i _
    rw [h]; simp
theorem snd_neL (O : Ok prog Φ lv) (r : Rel prog Φ σ imm st s) {a b : V} {x y : Value} (ha : VR (kno imm Φ.Hk) σ a x) (hb : VR (kno imm Φ.Hk) σ b y) :
    Snd prog Φ VR (compareOp .NotEq x y) (neL a b st) σ imm s := by
  have hu : Φ.A.units < cLine := by have := O.un; lia
  unfold neL
  split
  · rename_i la lb ea eb
    obtain ⟨p, vals, rfl, hl, hv⟩ := r.listAt ha ea
    obtain ⟨q, vals2, rfl, hl2, hv2⟩ := r.listAt hb eb
    have n1 := hv.length
    have n2 := hv2.length
    by_cases h1 : la.length ≠ lb.length
    · rw [if_pos h1]
      have key := Snd.leaf (prog := prog) (Φ := Φ) (ρ := VR) (σ := σ) (imm := imm) (s := s) (t := compareOp .NotEq (.ref p) (.ref q)) (r := R.ok (V.bool true) st) rfl
        (SeqAt.RcNeAt.lists_lengths (A := Φ.A) (s := s) hl hl2 (by simp; lia) hu prog Φ.w _ _ (r.here .bool))
      exact key
    · rw [if_neg h1]
      have h1' : la.length = lb.length := by lia
      by_cases h2 : la = []
      · rw [if_pos h2]
        have hz : vals.toArray.size = 0 := by rw [List.size_toArray, n1, h2]; rfl
        have key := Snd.leaf (prog := prog) (Φ := Φ) (ρ := VR) (σ := σ) (imm := imm) (s := s) (t := compareOp .NotEq (.ref p) (.ref q)) (r := R.ok (V.bool false) st) rfl
          (SeqAt.RcNeAt.lists (A := Φ.A) (s := s) (e := fun _ => true) hl hl2 (by simp; lia) hu (fun j h1 h2 => by lia) prog Φ.w _ _ (by
            have e : (!(List.range vals.toArray.size).all fun _ => true) = false := by rw [hz]; rfl
            rw [e]; exact r.here .bool))
        exact key
      · rw [if_neg h2]
        split
        · rename_i xs ys ex ey
          have bx := bytes_are hv ex
          have bY := bytes_are hv2 ey
          have lx := bx.len
          have ly := bY.len
          have key := Snd.leaf (prog := prog) (Φ := Φ) (ρ := VR) (σ := σ) (imm := imm) (s := s) (t := compareOp .NotEq (.ref p) (.ref q)) (r := R.ok (V.bool (!(xs == ys))) st) rfl
            (SeqAt.RcNeAt.lists (A := Φ.A) (s := s) (e := fun i => xs.getD i [] == ys.getD i []) hl hl2 (by simp; lia) hu (fun j h1 h2 => by
              obtain ⟨b1, t1, e1, e2⟩ := bx.get j vals.toArray[j] (by simp at h1; simp [h1])
              obtain ⟨b2, t2, e3, e4⟩ := bY.get j vals2.toArray[j] (by simp at h2; simp [h2])
              rw [e1, e3]
              have e5 : xs.getD j [] = KBw.bInts b1 := by rw [List.getD_eq_getElem?_getD, e2]; rfl
              have e6 : ys.getD j [] = KBw.bInts b2 := by rw [List.getD_eq_getElem?_getD, e4]; rfl
              rw [e5, e6]
              exact eqAt_bytes) prog Φ.w _ _ (by
              rw [all_range_eq (by rw [List.size_toArray]; lia) (by rw [List.size_toArray]; lia)]
              exact r.here .bool))
          exact key
        · exact Snd.fail
  · exact Snd.fail
noncomputable def mNeL (a b : Mo V) : Mo V := fun st => (a st).bind fun x st => (b st).bind fun y st => neL x y st
theorem ST_neL (O : Ok prog Φ lv) {l e : Expr} {dl dr : Mo V} {pos : Pos} (hl : SE prog Φ l dl) (hr : SE prog Φ e dr) (hm : behindInMarks .NotEq e = false) : ST prog Φ (.Compare l [.NotEq] [e] pos) (mTruth (mNeL dl dr)) := fun σ imm st s r => by
  rw [isTrue_Compare1, markedBehindIn_of_false hm]
  have e1 : mTruth (mNeL dl dr) st = ((dl st).bind fun x st => (dr st).bind fun y st => (neL x y st).bind truthV) := by
    unfold mTruth mNeL
    cases dl st with
    | ok v st1 => simp only [R.bind]; cases dr st1 <;> rfl
    | exc => rfl
    | fail => rfl
  rw [e1]
  refine snd2 r hl hr (fun _ {_ _ _ _} h => Snd.holding h) fun r' ha hb => Snd.stand (Snd.bind (Snd.operate (snd_neL O r' ha hb)) fun v st' σ' imm' x s' _ _ _ r'' hv => Snd.holding (snd_truth r'' hv))
end
end Mine
end
section
/-! text F11 -/
open PySem PySem.W PyProof.Rows
set_option Elab.async false
set_option autoImplicit false
set_option linter.unusedVariables false
namespace Mine
open Sem (wp)

noncomputable def isListC (v : V) (st : St) : Bool := match v with
  | .ref k => match st.cells[k]? with
    | some (.list _) => true
    | _ => false
  | _ => false
noncomputable def isBarrC (v : V) (st : St) : Bool := match v with
  | .ref k => match st.cells[k]? with
    | some (.barr _) => true
    | _ => false
  | _ => false
noncomputable def isDictC (v : V) (st : St) : Bool := match v with
  | .ref k => match st.cells[k]? with
    | some (.dict _ _) => true
    | _ => false
  | _ => false
noncomputable def isBytes (v : V) (_ : St) : Bool := match v with
  | .bytes _ => true
  | _ => false
noncomputable def fAppend : V → List V → Mo V
  | .ref k, [x], st => match st.cells[k]? with
    | some (.list vs) => if vs.length ≤ 1048576 then .ok .none { st with cells := st.cells.set k (.list (vs ++ [x])) } else .fail
    | _ => .fail
  | _, _, _ => .fail
noncomputable def fExtendL : V → List V → Mo V
  | .ref k, [x], st => match st.cells[k]?, listOf x st with
    | some (.list vs), some ws => if vs.length + ws.length ≤ 1048576 then .ok .none { st with cells := st.cells.set k (.list (vs ++ ws)) } else .fail
    | _, _ => .fail
  | _, _, _ => .fail
noncomputable def fBAppend : V → List V → Mo V
  | .ref k, [.int i], st => match st.cells[k]? with
    | some (.barr ks) => if ks.length < 1048576 ∧ 0 ≤ i ∧ i < 256 then .ok .none { st with cells := st.cells.set k (.barr (ks ++ [i])) } else .fail
    | _ => .fail
  | _, _, _ => .fail
noncomputable def fBExtend : V → List V → Mo V
  | .ref k, [.bytes js], st => match st.cells[k]? with
    | some (.barr ks) => if ks.length + js.length ≤ 1048576 then .ok .none { st with cells := st.cells.set k (.barr (ks ++ js)) } else .fail
    | _ => .fail
  | _, _, _ => .fail
noncomputable def fGet : V → List V → Mo V
  | .ref k, [.int i], st => match st.cells[k]? with
    | some (.dict f n) => .ok (match f i with
      | some j => .int j
      | none => .none) st
    | _ => .fail
  | _, _, _ => .fail
noncomputable def fJoin : V → List V → Mo V
  | .bytes [], [x], st => match listOf x st with
    | some vs => match bytesOf vs with
      | some ps => if ps.flatten.length ≤ 1048576 then .ok (.bytes ps.flatten) st else .fail
      | none => .fail
    | none => .fail
  | _, _, _ => .fail

section
variable {prog : Program} {Φ : Act} {lv : Nat} {σ : List Addr} {imm : List (Addr × Obj)} {st : St} {s : Shared}
theorem Rel.cellAt (r : Rel prog Φ σ imm st s) {k : Nat} {x : Value} {c : Cell} (h : VR (kno imm Φ.Hk) σ (.ref k) x) (e : st.cells[k]? = some c) :
    ∃ a o, σ[k]? = some a ∧ x = .ref a ∧ s.heap.get? a = some o ∧ CellO prog Φ.w (kno imm Φ.Hk) σ c o := by
  simp only [VR] at h
  obtain ⟨a, ha, rfl⟩ := h
  obtain ⟨o, ho, hc⟩ := r.cells k a c ha e
  exact ⟨a, o, ha, rfl, ho, hc⟩
theorem Rel.cellSame (r : Rel prog Φ σ imm st s) {k : Nat} {a : Addr} {c : Cell} {o : Obj} {h' : Heap} {tk : Nat} (hk : σ[k]? = some a) (ho : h'.get? a = some o) (hc : CellO prog Φ.w (kno imm Φ.Hk) σ c o)
    (hs : Heap.SameBut a s.heap h') : Rel prog Φ σ imm { st with cells := st.cells.set k c } { s with heap := h', toks := tk } :=
  r.setCell (s' := { s with heap := h', toks := tk }) hk ho hc (fun b o' hb e => (hs.2 b hb).trans e) rfl rfl rfl
theorem list_append_own {w : World} {A : Around} {E : Value → Shared → Prop} {l : Addr} {o : Obj} {vals : List Value} {n : Nat} {x : Value} {Q : Value → Shared → Prop} (ho : s.heap.get? l = some o) (hc : o.cls = .type "list") (hd : o.data = .seq vals.toArray n)
    (hsz : vals.length ≤ sizeLine) (hQ : ∀ h' o' n', h'.get? l = some o' → o'.cls = .type "list" → o'.dict = o.dict → o'.data = .seq (vals ++ [x]).toArray n' → Heap.SameBut l s.heap h' → Q .none { s with heap := h' }) :
    wpAny (model prog w) A (call (.builtin "list.append") [.ref l, x]) Q E s := by
  obtain ⟨n', hd'⟩ := Obj.data_mapSeq hd (·.push x)
  refine wpAny_call_entry slot_list_append ⟨o, ho, hc⟩ entry_list_append ?_ (args_list_append _ _)
  show wpAny _ _ (updateSeq l (·.push x) >>= fun _ => ret .none) _ _ s
  refine wpAny_bind ?_
  refine wpAny_updateSeq (hz := by rw [List.size_toArray]; exact hsz) (_hz' := by rw [Array.size_push, List.size_toArray]; lia) ho hd (wpAny_pure ⟨.none, rfl, hQ _ _ n' (Heap.get?_update_self _ ho (Obj.isFreed_of_seq hd')) ((Obj.cls_mapSeq ..).trans hc) ?_ (hd'.trans (by simp)) (Heap.SameBut.update ..)⟩)
  obtain ⟨c, d, dt, sl⟩ := o; cases dt <;> rfl
theorem list_extend_own {w : World} {A : Around} {E : Value → Shared → Prop} {l b : Addr} {o o2 : Obj} {vals ws : List Value} {n n2 : Nat} {Q : Value → Shared → Prop} (ho : s.heap.get? l = some o) (hc : o.cls = .type "list") (hd : o.data = .seq vals.toArray n)
    (ho2 : s.heap.get? b = some o2) (hc2 : o2.cls = .type "list") (hd2 : o2.data = .seq ws.toArray n2)
    (hsz : vals.length + ws.length ≤ sizeLine) (hQ : ∀ h' o' n', h'.get? l = some o' → o'.cls = .type "list" → o'.dict = o.dict → o'.data = .seq (vals ++ ws).toArray n' → Heap.SameBut l s.heap h' → Q .none { s with heap := h' }) :
    wpAny (model prog w) A (call (.builtin "list.extend") [.ref l, .ref b]) Q E s := by
  obtain ⟨n', hd'⟩ := Obj.data_mapSeq hd (· ++ ws.toArray)
  refine wpAny_call_entry PySem.F.slot_list_extend ⟨o, ho, hc⟩ PySem.F.entry_list_extend ?_ (PySem.F.args_list_extend_2 _ _)
  show wpAny _ _ (Builtin.List.listExtendWith (.ref l) (.ref b) .none) _ _ s
  unfold Builtin.List.listExtendWith
  refine wpAny_bind (wpAny_typeOf ⟨o2, ho2, hc2⟩ ?_)
  refine bm_if_true (by simp) ?_
  have items : ∀ {a : Addr} {oo : Obj} {xs : Array Value} {k : Nat} {Q' : Array Value → Shared → Prop}, s.heap.get? a = some oo → oo.data = .seq xs k → Q' xs s → wpAny (model prog w) A.in1 (Builtin.List.listItems (.ref a)) Q' E s := fun h1 h2 h3 => by
    unfold Builtin.List.listItems seqItems?
    refine wpAny_bind (wpAny_bind (wpAny_load h1 ?_))
    rw [h2]
    exact wpAny_pure (wpAny_pure h3)
  refine wpAny_bind (items ho2 hd2 ?_)
  refine wpAny_bind (items ho hd ?_)
  have hlong : Builtin.List.listTooLong (vals.toArray.size + ws.toArray.size) = false := by
    unfold Builtin.List.listTooLong
    rw [List.size_toArray, List.size_toArray]
    exact decide_eq_false (by lia)
  refine bm_if_false (by rw [hlong]; simp) ?_
  refine wpAny_bind (m := Builtin.List.listUpdate (.ref l) (· ++ ws.toArray)) ?_
  show wpAny _ _ (updateSeq l (· ++ ws.toArray)) _ _ s
  refine wpAny_updateSeq (hz := by rw [List.size_toArray]; lia) (_hz' := by rw [Array.size_append, List.size_toArray, List.size_toArray]; lia) ho hd (wpAny_pure ⟨.none, rfl, hQ _ _ n' (Heap.get?_update_self _ ho (Obj.isFreed_of_seq hd')) ((Obj.cls_mapSeq ..).trans hc) ?_ (hd'.trans (by simp)) (Heap.SameBut.update ..)⟩)
  obtain ⟨c, d, dt, sl⟩ := o; cases dt <;> rfl
theorem snd_append (O : Ok prog Φ lv) (r : Rel prog Φ σ imm st s) {v : V} {x : Value} {vs : List V} {xs : List Value} (hv : VR (kno imm Φ.Hk) σ v x) (h : VRs (kno imm Φ.Hk) σ vs xs) :
    Snd prog Φ VR (call (.builtin "list.append") (x :: xs)) (fAppend v vs st) σ imm s := by
  unfold fAppend
  split
  · rename_i k y
    obtain ⟨z, rfl, hz⟩ := one h
    split
    · rename_i ws e
      refine Snd.ite fun hc => ?_
      obtain ⟨a, o, ha, rfl, ho, hcl, hdn, n, vals, hd, hvs⟩ := r.cellAt hv e
      have hsz := sl_big
      have key := Snd.leaf (prog := prog) (Φ := Φ) (ρ := VR) (σ := σ) (imm := imm) (s := s) (r := R.ok V.none { st with cells := st.cells.set k (.list (ws ++ [y])) }) rfl
        (list_append_own (w := Φ.w) (A := Φ.A) (x := z) ho hcl hd (by rw [hvs.length]; lia) fun h' o' n' h1 h2 h3 h4 h5 =>
          (r.cellSame (tk := s.toks) ha h1 (c := .list (ws ++ [y])) ⟨h2, h3.trans hdn, n', _, h4, hvs.append (VRs.one hz)⟩ h5).here .none)
      exact key
    · exact Snd.fail
  · exact Snd.fail
theorem snd_extendL (O : Ok prog Φ lv) (r : Rel prog Φ σ imm st s) {v : V} {x : Value} {vs : List V} {xs : List Value} (hv : VR (kno imm Φ.Hk) σ v x) (h : VRs (kno imm Φ.Hk) σ vs xs) :
    Snd prog Φ VR (call (.builtin "list.extend") (x :: xs)) (fExtendL v vs st) σ imm s := by
  unfold fExtendL
  split
  · rename_i k y
    obtain ⟨z, rfl, hz⟩ := one h
    split
    · rename_i us ws e e2
      refine Snd.ite fun hc => ?_
      obtain ⟨a, o, ha, rfl, ho, hcl, hdn, n, vals, hd, hvs⟩ := r.cellAt hv e
      obtain ⟨b, vals2, rfl, ⟨o2, ho2, hcl2, n2, hd2⟩, hws⟩ := r.listAt hz e2
      have hsz := sl_big
      have key := Snd.leaf (prog := prog) (Φ := Φ) (ρ := VR) (σ := σ) (imm := imm) (s := s) (r := R.ok V.none { st with cells := st.cells.set k (.list (us ++ ws)) }) rfl
        (list_extend_own (w := Φ.w) (A := Φ.A) ho hcl hd ho2 hcl2 hd2 (by rw [hvs.length, hws.length]; lia) fun h' o' n' h1 h2 h3 h4 h5 =>
          (r.cellSame (tk := s.toks) ha h1 (c := .list (us ++ ws)) ⟨h2, h3.trans hdn, n', _, h4, hvs.append hws⟩ h5).here .none)
      exact key
    · exact Snd.fail
  · exact Snd.fail
theorem toNat_u8 {i : Int} (h0 : 0 ≤ i) (h1 : i < 256) : (i.toNat.toUInt8.toNat : Int) = i := by
  have : (UInt8.ofNat i.toNat).toNat = i.toNat := by rw [UInt8.toNat_ofNat']; lia
  show ((UInt8.ofNat i.toNat).toNat : Int) = i
  rw [this]; lia
theorem snd_bappend (O : Ok prog Φ lv) (r : Rel prog Φ σ imm st s) {v : V} {x : Value} {vs : List V} {xs : List Value} (hv : VR (kno imm Φ.Hk) σ v x) (h : VRs (kno imm Φ.Hk) σ vs xs) :
    Snd prog Φ VR (call (.builtin "bytearray.append") (x :: xs)) (fBAppend v vs st) σ imm s := by
  unfold fBAppend
  split
  · rename_i k i
    obtain ⟨z, rfl, hz⟩ := one h
    split
    · rename_i ks e
      refine Snd.ite fun hc => ?_
      obtain ⟨a, o, ha, rfl, ho, hcl, hdn, b, hd, rfl⟩ := r.cellAt hv e
      simp only [VR] at hz
      obtain ⟨t, rfl⟩ := hz
      have hsz := sl_big
      have hbs := hc.1
      rw [KBw.ints_length] at hbs
      have key := Snd.leafC (prog := prog) (Φ := Φ) (ρ := VR) (σ := σ) (imm := imm) (s := s) (r := R.ok V.none { st with cells := st.cells.set k (.barr (KBw.bInts b ++ [i])) }) rfl
        (barr_append (w := Φ.w) (A := Φ.A) (t := t) ⟨o, ho, hcl, hdn, hd⟩ hc.2.1 hc.2.2 (by lia) fun h' h1 h5 => by
          obtain ⟨o', h1, h2, h3, h4⟩ := h1
          refine (r.cellSame (tk := s.toks) ha h1 (c := .barr (KBw.bInts b ++ [i])) ⟨h2, h3, _, h4, ?_⟩ h5).here .none
          unfold KBw.bInts
          rw [Array.toList_push, List.map_append, List.map_cons, List.map_nil, toNat_u8 hc.2.1 hc.2.2])
      exact key
    · exact Snd.fail
  · exact Snd.fail
theorem snd_bextend (O : Ok prog Φ lv) (r : Rel prog Φ σ imm st s) {v : V} {x : Value} {vs : List V} {xs : List Value} (hv : VR (kno imm Φ.Hk) σ v x) (h : VRs (kno imm Φ.Hk) σ vs xs) :
    Snd prog Φ VR (call (.builtin "bytearray.extend") (x :: xs)) (fBExtend v vs st) σ imm s := by
  unfold fBExtend
  split
  · rename_i k js
    obtain ⟨z, rfl, hz⟩ := one h
    split
    · rename_i ks e
      refine Snd.ite fun hc => ?_
      obtain ⟨a, o, ha, rfl, ho, hcl, hdn, b, hd, rfl⟩ := r.cellAt hv e
      simp only [VR] at hz
      obtain ⟨c, t, rfl, rfl⟩ := hz
      have hsz := sl_big
      have hbs := hc
      rw [KBw.ints_length, KBw.ints_length] at hbs
      have key := Snd.leafC (prog := prog) (Φ := Φ) (ρ := VR) (σ := σ) (imm := imm) (s := s) (r := R.ok V.none { st with cells := st.cells.set k (.barr (KBw.bInts b ++ KBw.bInts c)) }) rfl
        (barr_extend (w := Φ.w) (A := Φ.A) (c := c) (t := t) ⟨o, ho, hcl, hdn, hd⟩ (by lia) fun h' h1 h5 => by
          obtain ⟨o', h1, h2, h3, h4⟩ := h1
          exact (r.cellSame (tk := s.toks) ha h1 (c := .barr (KBw.bInts b ++ KBw.bInts c)) ⟨h2, h3, _, h4, KBw.ints_app rfl rfl⟩ h5).here .none)
      exact key
    · exact Snd.fail
  · exact Snd.fail
theorem snd_get (O : Ok prog Φ lv) (r : Rel prog Φ σ imm st s) {v : V} {x : Value} {vs : List V} {xs : List Value} (hv : VR (kno imm Φ.Hk) σ v x) (h : VRs (kno imm Φ.Hk) σ vs xs) :
    Snd prog Φ VR (call (.builtin "dict.get") (x :: xs)) (fGet v vs st) σ imm s := by
  unfold fGet
  split
  · rename_i k i
    obtain ⟨z, rfl, hz⟩ := one h
    split
    · rename_i f n e
      obtain ⟨a, o, ha, rfl, ho, hx, es, ep, hd, hk, hn, hf⟩ := r.cellAt hv e
      simp only [VR] at hz
      obtain ⟨t, rfl⟩ := hz
      have hma : (a == sysModules) = false := by
        exact beq_eq_false_iff_ne.mpr fun e => r.noSys (e ▸ List.mem_of_getElem? ha)
      have hm : s.heap.MapOf (intKind prog Φ.w) a (fun k => findBy (intKind prog Φ.w).is es k) := ⟨o, es, ep, ho, hx, hd, hk, fun _ => rfl⟩
      have hkey : (intKind prog Φ.w).is i (.int i t) = true := by show Value.isInt i (.int i t) = true; simp [Value.isInt]
      have key := Snd.leaf (prog := prog) (Φ := Φ) (ρ := VR) (σ := σ) (imm := imm) (s := s) (r := R.ok (match f i with | some j => V.int j | none => V.none) st) rfl
        (call_meetsIn (self := .ref a) (A := Φ.A) F.slot_dict_get ⟨o, ho, hx.1⟩ F.entry_dict_get (F.args_dict_get_2 _ _) (meets_dict_get (intKind prog Φ.w) a (key := .int i t) hkey hma) ⟨_, hm, by
          show ∃ σ' imm', _
          have hfi := hf i
          cases hfv : f i with
          | some j =>
            rw [hfv] at hfi
            obtain ⟨t', e'⟩ := hfi
            rw [e']
            exact r.give _ .int
          | none =>
            rw [hfv] at hfi
            rw [hfi]
            exact r.give _ .none⟩)
      exact key
    · exact Snd.fail
  · exact Snd.fail
theorem snd_join (O : Ok prog Φ lv) (r : Rel prog Φ σ imm st s) {v : V} {x : Value} {vs : List V} {xs : List Value} (hv : VR (kno imm Φ.Hk) σ v x) (h : VRs (kno imm Φ.Hk) σ vs xs) :
    Snd prog Φ VR (call (.builtin "bytes.join") (x :: xs)) (fJoin v vs st) σ imm s := by
  unfold fJoin
  split
  · rename_i y
    obtain ⟨z, rfl, hz⟩ := one h
    simp only [VR] at hv
    obtain ⟨b0, t0, rfl, hb0⟩ := hv
    have hb0' : b0 = #[] := by
      have := congrArg List.length hb0
      rw [KBw.ints_length] at this
      exact Array.eq_empty_of_size_eq_zero this
    subst hb0'
    split
    · rename_i ws e
      split
      · rename_i ps e2
        refine Snd.ite fun hc => ?_
        obtain ⟨a, vals, rfl, hl, hws⟩ := r.listAt hz e
        have hsz := sl_big
        have key := Snd.leaf (prog := prog) (Φ := Φ) (ρ := VR) (σ := σ) (imm := imm) (s := s) (r := R.ok (V.bytes ps.flatten) st) rfl
          (bytes_join (w := Φ.w) (A := Φ.A) (t := t0) hl (bytes_are hws e2) (by lia) fun b t' k hb => r.give _ (.bytes' hb))
        exact key
      · exact Snd.fail
    · exact Snd.fail
  · exact Snd.fail

/-! dict and bytearray items set -/
noncomputable def setV : V → V → V → Mo Unit
  | .ref k, .int i, v, st => match st.cells[k]? with
    | some (.barr ks) => match v with
      | .int x => if 0 ≤ i ∧ i < ks.length ∧ ks.length ≤ 1048576 ∧ 0 ≤ x ∧ x < 256 then .ok () { st with cells := st.cells.set k (.barr (ks.set i.toNat x)) } else .fail
      | _ => .fail
    | some (.dict f n) => match v with
      | .int x => if n ≤ 1000000 then .ok () { st with cells := st.cells.set k (.dict (fun y => if y = i then some x else f y) (n + 1)) } else .fail
      | _ => .fail
    | _ => .fail
  | _, _, _, _ => .fail
theorem dictSet_own {K : Type} [DecidableEq K] {w : World} {A : Around} {E : Value → Shared → Prop} (knd : KeyKind prog w K) {d : Addr} {o : Obj} {es : Array DictEntry} {ep : Nat} {k : K} {key v : Value} {Q : Unit → Shared → Prop} (hkey : knd.is k key = true)
    (ho : s.heap.get? d = some o) (hc : o.ExactDict) (hd : o.data = .dict es ep) (hk : KeysOf knd es) (hz : es.size ≤ sizeLine)
    (hQ : ∀ h' o' es' ep', h'.get? d = some o' → o'.ExactDict → o'.data = .dict es' ep' → KeysOf knd es' → es'.size ≤ es.size + 1 → (∀ x, findBy knd.is es' x = if x = k then some v else findBy knd.is es x) → Heap.SameBut d s.heap h' → Q () { s with heap := h', toks := s.toks + 1 }) :
    wpAny (model prog w) A (setItem (.ref d) key v) Q E s := by
  have hT : s.TypeIs (.ref d) "dict" := ⟨o, ho, hc.1⟩
  unfold setItem
  try with_reducible refine wpAny_holding ?_
  refine wpAny_bind (wpAny_sequenceKey hT (by decide) ?_)
  refine wpAny_bind (wpAny_callSpecial?_slot (name := Str.ofString "__setitem__") hT slot_dict_setitem
    (wpAny_call_entry slot_dict_setitem hT entry_dict_setitem ?_ (args_dict_setitem _ _ _)))
  show wpAny _ _ (Builtin.Dict.notOrdered "__setitem__" ⟨[.ref d, key, v], []⟩ >>= _) _ _ s
  refine wpAny_bind (wpAny_notOrdered_dict hT ?_)
  show wpAny _ _ (dictSet d key v >>= _) _ _ s
  refine wpAny_bind (m := dictSet d key v) (wpAny_mono (Q := Q) ?_ (fun _ s' h => wpAny_pure ⟨.none, rfl, wpAny_pure h⟩) fun _ _ e => e)
  unfold dictSet
  try with_reducible refine wpAny_holding ?_
  refine wpAny_bind (knd.pyHash hkey ?_)
  unfold dictSetHashed
  try with_reducible refine wpAny_holding ?_
  refine wpAny_bind (wpAny_dictFind_of (s := { s with toks := s.toks + 1 }) hkey ho hd hk ?_)
  cases hi : es.findIdx? fun e => knd.is k e.key with
  | some i =>
    refine wpAny_bind (wpAny_rule (wpAny_bind (wpAny_updateDict (s := { s with toks := s.toks + 1 }) ho hd (wpAny_point (hQ _ _ _ ep (Heap.get?_update_self _ ho (Obj.isFreed_of_dict (Obj.data_mapDict hd _)))
      (hc.mapDict _) (Obj.data_mapDict hd _) (hk.modify _ _) (by simp only [Array.size_modify]; lia) (fun x => ?_) (Heap.SameBut.update ..))))))
    rw [findBy_modify knd.is knd.inj es k x v i hi]
  | none =>
    refine wpAny_bind (wpAny_rule (wpAny_updateDictKeys (hz := hz) (s := { s with toks := s.toks + 1 }) ho hd (hQ _ _ _ (ep + 1) (Heap.get?_update_self _ ho (Obj.isFreed_of_dict (Obj.data_mapDictKeys hd _)))
      (hc.mapDictKeys _) (Obj.data_mapDictKeys hd _) (hk.push hkey _) (by simp only [Array.size_push]; lia) (fun x => ?_) (Heap.SameBut.update ..))))
    rw [findBy_push knd.is es k x _ _ v (KeyKind.is_eq_decide hkey) hi]
theorem snd_setV (O : Ok prog Φ lv) (r : Rel prog Φ σ imm st s) {a b v : V} {x y z : Value} (ha : VR (kno imm Φ.Hk) σ a x) (hb : VR (kno imm Φ.Hk) σ b y) (hv : VR (kno imm Φ.Hk) σ v z) :
    Snd prog Φ (fun _ _ _ _ => True) (setItem x y z) (setV a b v st) σ imm s := by
  unfold setV
  split
  · rename_i k i
    simp only [VR] at hb
    obtain ⟨u, rfl⟩ := hb
    split
    · rename_i ks e
      split
      · rename_i j
        refine Snd.ite fun hc => ?_
        obtain ⟨ad, o, hk, rfl, ho, hcl, hdn, b, hd, rfl⟩ := r.cellAt ha e
        simp only [VR] at hv
        obtain ⟨t, rfl⟩ := hv
        have hsz := sl_big
        obtain ⟨h0, h1, h2, h3, h4⟩ := hc
        rw [KBw.ints_length] at h1 h2
        have key := Snd.leaf (prog := prog) (Φ := Φ) (ρ := fun _ _ _ _ => True) (σ := σ) (imm := imm) (s := s) (r := R.ok () { st with cells := st.cells.set k (.barr ((KBw.bInts b).set i.toNat j)) }) rfl
          (barr_setitem (w := Φ.w) (A := Φ.A) (u := u) (v := t) ⟨o, ho, hcl, hdn, hd⟩ (by lia) h0 h1 h3 h4 fun h' q1 h5 => by
            obtain ⟨o', q1, q2, q3, q4⟩ := q1
            refine (r.cellSame (tk := s.toks) hk q1 (c := .barr ((KBw.bInts b).set i.toNat j)) ⟨q2, q3, _, q4, ?_⟩ h5).here (ρ := fun _ _ (_ : Unit) (_ : Unit) => True) (b := ()) (a := ()) trivial
            unfold KBw.bInts
            rw [Array.toList_setIfInBounds, List.map_set, toNat_u8 h3 h4])
        exact key
      · exact Snd.fail
    · rename_i f n e
      split
      · rename_i j
        refine Snd.ite fun hc => ?_
        obtain ⟨ad, o, hk, rfl, ho, hx, es, ep, hd, hks, hn, hf⟩ := r.cellAt ha e
        simp only [VR] at hv
        obtain ⟨t, rfl⟩ := hv
        have hm : s.heap.MapOf (intKind prog Φ.w) ad (fun k => findBy (intKind prog Φ.w).is es k) := ⟨o, es, ep, ho, hx, hd, hks, fun _ => rfl⟩
        have hkey : (intKind prog Φ.w).is i (.int i u) = true := by show Value.isInt i (.int i u) = true; simp [Value.isInt]
        have hsz := sl_big
        have key := Snd.leaf (prog := prog) (Φ := Φ) (ρ := fun _ _ _ _ => True) (σ := σ) (imm := imm) (s := s) (r := R.ok () { st with cells := st.cells.set k (.dict (fun y => if y = i then some j else f y) (n + 1)) }) rfl
          (dictSet_own (intKind prog Φ.w) (A := Φ.A) (key := .int i u) (v := .int j t) hkey ho hx hd hks (by lia) fun h' o' es' ep' q1 q2 q3 q4 q5 q6 q7 => by
            refine (r.cellSame (tk := s.toks + 1) hk q1 (c := .dict (fun y => if y = i then some j else f y) (n + 1)) ⟨q2, es', ep', q3, q4, by lia, fun y => ?_⟩ q7).here (ρ := fun _ _ (_ : Unit) (_ : Unit) => True) (b := ()) (a := ()) trivial
            by_cases hy : y = i
            · subst hy
              simp only [if_true]
              exact ⟨t, by rw [q6]; simp⟩
            · simp only [if_neg hy]
              rw [q6, if_neg hy]
              exact hf y)
        exact key
      · exact Snd.fail
    · exact Snd.fail
  · exact Snd.fail
end
end Mine
end
section
/-! text F12 -/
open PySem PySem.W PyProof.Rows
set_option Elab.async false
set_option autoImplicit false
set_option linter.unusedVariables false
set_option genSizeOf false
set_option genInjectivity false
namespace Mine
open Sem (wp)

/-! statements -/
inductive FV where
  | next
  | ret (v : V)
noncomputable def FR : VRel FV Flow := fun kn σ a b => match a, b with
  | .next, .next => True
  | .ret v, .ret x => VR kn σ v x
  | _, _ => False
noncomputable def SX (prog : Program) (Φ : Act) (c : Stmt) (d : Mo FV) : Prop := ∀ σ imm st s, Rel prog Φ σ imm st s → Snd prog Φ FR (exec c Φ.env) (d st) σ imm s
noncomputable def SXs (prog : Program) (Φ : Act) (c : List Stmt) (d : Mo FV) : Prop := ∀ σ imm st s, Rel prog Φ σ imm st s → Snd prog Φ FR (execs c Φ.env) (d st) σ imm s
noncomputable def mNext : Mo FV := fun st => .ok .next st
noncomputable def mSeq (a b : Mo FV) : Mo FV := fun st => (a st).bind fun f st => match f with
  | .next => b st
  | .ret v => .ok (.ret v) st
noncomputable def mSet (i : Nat) (v : V) : Mo Unit := fun st => .ok () { st with loc := st.loc.set i (some v) }
noncomputable def mAsg (i : Nat) (d : Mo V) : Mo FV := fun st => (d st).bind fun v st => .ok .next { st with loc := st.loc.set i (some v) }
noncomputable def mRet (d : Mo V) : Mo FV := fun st => (d st).bind fun v st => .ok (.ret v) st
noncomputable def mDrop (d : Mo V) : Mo FV := fun st => (d st).bind fun _ st => .ok .next st
noncomputable def mIfS (t : Mo Bool) (a b : Mo FV) : Mo FV := fun st => (t st).bind fun x st => if x = true then a st else b st
noncomputable def mWhile (t : Mo Bool) (b : Mo FV) : Nat → Mo FV
  | 0 => fun _ => .fail
  | n + 1 => fun st => (t st).bind fun x st => if x = true then (b st).bind fun f st => match f with
    | .next => mWhile t b n st
    | .ret v => .ok (.ret v) st
    else .ok .next st
noncomputable def mFor (asg : V → Mo Unit) (b : Mo FV) : List V → Mo FV
  | [] => fun st => .ok .next st
  | v :: vs => fun st => (asg v st).bind fun _ st => (b st).bind fun f st => match f with
    | .next => mFor asg b vs st
    | .ret v => .ok (.ret v) st

section
variable {prog : Program} {Φ : Act} {lv : Nat} {σ : List Addr} {imm : List (Addr × Obj)} {st : St} {s : Shared}
theorem SXs_nil : SXs prog Φ [] mNext := fun σ imm st s r => by
  refine fun _ => wpC_execs_nil ⟨.next, st, σ, imm, rfl, List.prefix_refl _, .refl _, r, trivial⟩
theorem SXs_cons {c : Stmt} {cs : List Stmt} {d ds : Mo FV} (h : SX prog Φ c d) (hs : SXs prog Φ cs ds) : SXs prog Φ (c :: cs) (mSeq d ds) := fun σ imm st s r => by
  rw [execs_cons]
  refine Snd.bind (h _ _ _ _ r) fun f st' σ' imm' x s' _ hp hi r' hf => ?_
  cases f with
  | next =>
    cases x <;> first | exact hf.elim | exact hs _ _ _ _ r'
  | ret v =>
    cases x with
    | ret y => exact Snd.pure r' hf
    | _ => exact hf.elim
/-- the last one needs no sequel -/
theorem SXs_one {c : Stmt} {d : Mo FV} (h : SX prog Φ c d) : SXs prog Φ [c] (mSeq d mNext) := SXs_cons h SXs_nil
theorem SX_ret (O : Ok prog Φ lv) {e : Expr} {pos : Pos} {d : Mo V} (h : SE prog Φ e d) : SX prog Φ (.Return (some e) pos) (mRet d) := fun σ imm st s r => by
  show Snd prog Φ FR (do standAt pos; return .ret (← eval e Φ.env)) _ σ imm s
  exact Snd.stand (Snd.bind (h _ _ _ _ r) fun v st' σ' imm' x s' _ _ _ r' hv => Snd.pure r' hv)
theorem SX_if {t : Expr} {a b : List Stmt} {pos : Pos} {dt : Mo Bool} {da db : Mo FV} (ht : ST prog Φ t dt) (ha : SXs prog Φ a da) (hb : SXs prog Φ b db) : SX prog Φ (.If t a b pos) (mIfS dt da db) := fun σ imm st s r => by
  rw [exec_If]
  refine Snd.stand (Snd.bind (ht _ _ _ _ r) fun x st' σ' imm' c s' _ _ _ r' hx => ?_)
  subst hx
  cases x
  · exact hb _ _ _ _ r'
  · exact ha _ _ _ _ r'
/-- a local is set -/
theorem snd_set (O : Ok prog Φ lv) (r : Rel prog Φ σ imm st s) {i : Nat} {x : Str} {v : V} {val : Value} (hx : Φ.names[i]? = some x) (hk : Φ.env.kindOf x = some .local) (hv : VR (kno imm Φ.Hk) σ v val) :
    Snd prog Φ (fun _ _ (_ : Unit) (_ : Unit) => True) (bindName Φ.env x val) (mSet i v st) σ imm s := by
  obtain ⟨m, h1, h2⟩ := r.loc
  refine Snd.leaf rfl (wpAny_bindName (wpAny_storeName_local hk (O.locals ▸ h1) (fun h' q1 q2 => ?_) (by rw [O.kind]; rfl)))
  rw [O.locals] at q1 q2
  exact ⟨σ, imm, List.prefix_refl _, .refl _, r.setLoc h1 h2 q1 q2 hx O.nod hv, trivial⟩
theorem SX_asg (O : Ok prog Φ lv) {i : Nat} {x : Str} {e : Expr} {p pos : Pos} {d : Mo V} (h : SE prog Φ e d) (hx : Φ.names[i]? = some x) (hk : Φ.env.kindOf x = some .local)
    (hs : swapsWith e (some (.Name x p)) pos.line Φ.env = pure false) : SX prog Φ (.Assign [.Name x p] e pos) (mAsg i d) := fun σ imm st s r => by
  rw [exec_Assign_Name _ _ _ _ _ hs]
  refine Snd.stand (Snd.bind (h _ _ _ _ r) fun v st' σ' imm' val s' _ _ _ r' hv => Snd.stand ?_)
  exact Snd.bind (g := fun _ st => R.ok FV.next st) (snd_set O r' hx hk hv) fun _ st2 σ2 imm2 _ s2 _ _ _ r2 _ => Snd.pure r2 trivial
theorem SX_drop {e : Expr} {pos : Pos} {d : Mo V} (h : SE prog Φ e d) (he : exec (.Expr e pos) Φ.env = (do standAt pos; let v ← eval e Φ.env; dropValue e pos v)) : SX prog Φ (.Expr e pos) (mDrop d) := fun σ imm st s r => by
  rw [he]
  refine Snd.stand (Snd.bind (h _ _ _ _ r) fun v st' σ' imm' val s' _ _ _ r' hv => ?_)
  exact Snd.leaf rfl (wpAny_dropValue (r'.here (ρ := FR) (b := .next) (a := .next) trivial))

/-! variables that a comprehension shares -/
noncomputable def mBox (k : Nat) : Mo V := fun st => match st.cells[k]? with
  | some (.box (some v)) => .ok v st
  | _ => .fail
theorem SE_box (O : Ok prog Φ lv) {k : Nat} {x : Str} {c : Addr} {pos : Pos} (hk : Φ.env.kindOf x = some .cell ∨ Φ.env.kindOf x = some .free) (hc : Φ.env.cells.lookup x = some c) (hs : Φ.sig0[k]? = some c)
    (hn : (x == ("__classdict__" : Str)) = false) (hd : (x == ("__debug__" : Str)) = false) : SE prog Φ (.Name x pos) (mBox k) := fun σ imm st s r => by
  unfold mBox
  split
  · rename_i v hv
    obtain ⟨o, ho, y, hd', z, rfl, hz⟩ := r.cells k c _ (pre_get r.pre hs) hv
    rcases hk with hk | hk
    · exact Snd.leaf rfl (wpAny_Name (wpAny_loadName_cell O.kind hk hc ⟨o, ho, hd'⟩ (r.here hz)) hd)
    · exact Snd.leaf rfl (wpAny_Name (wpAny_loadName_free O.kind hk hc ⟨o, ho, hd'⟩ (r.here hz) hn) hd)
  · exact Snd.fail
noncomputable def isBox (st : St) (k : Nat) : Bool := match st.cells[k]? with
  | some (.box _) => true
  | _ => false
noncomputable def mSetBox (k : Nat) (v : V) : Mo Unit := fun st => if isBox st k = true then .ok () { st with cells := st.cells.set k (.box (some v)) } else .fail
theorem snd_setBox (O : Ok prog Φ lv) (r : Rel prog Φ σ imm st s) {k : Nat} {x : Str} {c : Addr} {v : V} {val : Value} (hk : Φ.env.kindOf x = some .cell) (hc : Φ.env.cells.lookup x = some c) (hs : Φ.sig0[k]? = some c) (hv : VR (kno imm Φ.Hk) σ v val) :
    Snd prog Φ (fun _ _ (_ : Unit) (_ : Unit) => True) (bindName Φ.env x val) (mSetBox k v st) σ imm s := by
  unfold mSetBox
  refine Snd.ite fun hb => ?_
  unfold isBox at hb
  split at hb
  · rename_i w hw
    obtain ⟨o, ho, y, hd', _⟩ := r.cells k c _ (pre_get r.pre hs) hw
    refine Snd.leaf (prog := prog) (Φ := Φ) (ρ := fun _ _ (_ : Unit) (_ : Unit) => True) (σ := σ) (imm := imm) (s := s) rfl (wpAny_bindName (wpAny_storeName_cell O.kind hk hc ⟨o, ho, hd'⟩ fun h' q1 q2 => ?_))
    obtain ⟨o', h1, h2⟩ := q1
    exact (r.cellSame (tk := s.toks) (pre_get r.pre hs) h1 (c := .box (some v)) ⟨_, h2, val, rfl, hv⟩ q2).here (ρ := fun _ _ (_ : Unit) (_ : Unit) => True) (b := ()) (a := ()) trivial
  · exact absurd hb (by decide)

/-! targets -/
inductive TG where
  | loc (i : Nat) | box (k : Nat)
noncomputable def setTG : TG → V → Mo Unit
  | .loc i, v => mSet i v
  | .box k, v => mSetBox k v
noncomputable def setTGs : List TG → List V → Mo Unit
  | [], [] => fun st => .ok () st
  | t :: ts, v :: vs => fun st => (setTG t v st).bind fun _ st => setTGs ts vs st
  | _, _ => fun _ => .fail
/-- a name that a target is -/
inductive IsTG (Φ : Act) : TG → Str → Prop
  | loc {i : Nat} {x : Str} (hx : Φ.names[i]? = some x) (hk : Φ.env.kindOf x = some .local) : IsTG Φ (.loc i) x
  | box {k : Nat} {x : Str} {c : Addr} (hk : Φ.env.kindOf x = some .cell) (hc : Φ.env.cells.lookup x = some c) (hs : Φ.sig0[k]? = some c) : IsTG Φ (.box k) x
theorem snd_TG (O : Ok prog Φ lv) {t : TG} {x : Str} (h : IsTG Φ t x) (r : Rel prog Φ σ imm st s) {v : V} {val : Value} (hv : VR (kno imm Φ.Hk) σ v val) :
    Snd prog Φ (fun _ _ (_ : Unit) (_ : Unit) => True) (bindName Φ.env x val) (setTG t v st) σ imm s := by
  cases h with
  | loc hx hk => exact snd_set O r hx hk hv
  | box hk hc hs => exact snd_setBox O r hk hc hs hv
inductive AllF (Φ : Act) : List TG → List (Value → Sem Unit) → Prop
  | nil : AllF Φ [] []
  | cons {t : TG} {x : Str} {f : Value → Sem Unit} {ts : List TG} {fs : List (Value → Sem Unit)} (h : IsTG Φ t x) (hf : ∀ v, f v = bindName Φ.env x v ∨ ∃ p, f v = (do standAt p; bindName Φ.env x v)) (hs : AllF Φ ts fs) : AllF Φ (t :: ts) (f :: fs)
theorem AllF.name {t : TG} {x : Str} {p : Pos} {ts : List TG} {fs : List (Value → Sem Unit)} (h : IsTG Φ t x) (hs : AllF Φ ts fs) : AllF Φ (t :: ts) (assign (.Name x p) Φ.env :: fs) := .cons h (fun _ => .inr ⟨p, rfl⟩) hs
theorem AllF.bind {t : TG} {x : Str} {ts : List TG} {fs : List (Value → Sem Unit)} (h : IsTG Φ t x) (hs : AllF Φ ts fs) : AllF Φ (t :: ts) (bindName Φ.env x :: fs) := .cons h (fun _ => .inl rfl) hs
theorem snd_inOrder (O : Ok prog Φ lv) : ∀ {ts : List TG} {fs : List (Value → Sem Unit)} {vs : List V} {vals : List Value} {σ : List Addr} {imm : List (Addr × Obj)} {st : St} {s : Shared},
    AllF Φ ts fs → Rel prog Φ σ imm st s → VRs (kno imm Φ.Hk) σ vs vals → Snd prog Φ (fun _ _ (_ : Unit) (_ : Unit) => True) (assignInOrder fs vals) (setTGs ts vs st) σ imm s
  | [], _, vs, vals, σ, imm, st, s, h, r, hv => by
    cases h
    cases vs with
    | nil => simp only [VRs] at hv; subst hv; exact Snd.pure r trivial
    | cons v vs => exact Snd.fail
  | t :: ts, _, vs, vals, σ, imm, st, s, h, r, hv => by
    cases h with
    | cons h hf hs =>
      rename_i x f fs
      cases vs with
      | nil => exact Snd.fail
      | cons v vs =>
        simp only [VRs] at hv
        obtain ⟨y, ys, rfl, hv1, hv2⟩ := hv
        show Snd prog Φ _ (do PySem.holding ys (f y); assignInOrder fs ys) _ σ imm s
        refine Snd.bind (ρ := fun _ _ (_ : Unit) (_ : Unit) => True) (Snd.holding ?_) fun _ st2 σ2 imm2 _ s2 _ hp hi r2 _ => snd_inOrder O hs r2 (hv2.mono (kno.leI hi) hp)
        rcases hf y with e | ⟨p, e⟩
        · rw [e]; exact snd_TG O h r hv1
        · rw [e]; exact Snd.stand (snd_TG O h r hv1)
noncomputable def mAsgT (ts : List TG) (d : Mo V) : Mo FV := fun st => (d st).bind fun v st => match v with
  | .tup vs => if vs.length = ts.length then (setTGs ts vs st).bind fun _ st => .ok .next st else .fail
  | _ => .fail
noncomputable def mAsgS (ts : List TG) (d : Mo V) : Mo FV := fun st => (d st).bind fun v st => match v with
  | .tup vs => if vs.length = ts.length then (setTGs ts.reverse vs.reverse st).bind fun _ st => .ok .next st else .fail
  | _ => .fail
theorem snd_items (O : Ok prog Φ lv) (r : Rel prog Φ σ imm st s) {vs : List V} {x : Value} {n : Nat} (h : VR (kno imm Φ.Hk) σ (.tup vs) x) (hn : vs.length = n) :
    Snd prog Φ (fun kn σ (ws : List V) vals => ws = vs ∧ VRs kn σ vs vals) (unpackItems x n none) (.ok vs st) σ imm s := by
  simp only [VR] at h
  obtain ⟨a, o, k, vals, rfl, hk, hc, hd, hv⟩ := h
  have ht : s.heap.IsTuple a vals.toArray := ⟨o, r.known hk, hc, k, hd⟩
  have hsz : vals.toArray.size = n := by rw [List.size_toArray, hv.length, hn]
  have key := wpAny_unpackItems_tuple (prog := prog) (w := Φ.w) (A := Φ.A) (E := fun _ _ => False) (s := s) (Q := fun ws s' => ∃ σ' imm', σ <+: σ' ∧ ImmLe imm imm' ∧ Rel prog Φ σ' imm' st s' ∧ (vs = vs ∧ VRs (kno imm' Φ.Hk) σ' vs ws)) O.hh ht fun h' hx => by
    refine ⟨σ, imm, List.prefix_refl _, .refl _, ?_, rfl, hv⟩
    refine r.grow (s' := { s with heap := h' }) (fun b o e => hx b o ?_ e) rfl rfl rfl
    exact Nat.ne_of_lt (Heap.lt_size e)
  rw [hsz] at key
  exact Snd.leaf rfl key
theorem SX_asgT (O : Ok prog Φ lv) {ts : List TG} {elts : List Expr} {fs : List (Value → Sem Unit)} {k : Nat} {e : Expr} {p pos : Pos} {d : Mo V} (h : SE prog Φ e d) (hf : AllF Φ ts fs)
    (he : (assignEach elts Φ.env).map (·.2) = fs) (hlen : (assignEach elts Φ.env).length = ts.length) (hstar : (assignEach elts Φ.env).findIdx? (·.1) = none)
    (hs : swapsWithSole [.Tuple elts k p] e pos.line Φ.env = pure false) (hw : swappedStores [.Tuple elts k p] e Φ.env = pure none) :
    SX prog Φ (.Assign [.Tuple elts k p] e pos) (mAsgT ts d) := fun σ imm st s r => by
  rw [exec_Assign_arm]
  refine Snd.stand ?_
  rw [hs, pure_bind, if_neg (by decide)]
  refine Snd.bind (h _ _ _ _ r) fun v st' σ' imm' val s' _ _ _ r' hv => ?_
  rw [hw, pure_bind]
  split
  · rename_i vs e0
    intro hne
    have hvl := ite_ne hne
    rw [if_pos hvl] at hne ⊢
    revert hne
    show Snd prog Φ FR (do assign (.Tuple elts k p) Φ.env val; pure .next) _ σ' imm' s'
    refine Snd.bind (ρ := fun _ _ (_ : Unit) (_ : Unit) => True) ?_ fun _ st2 σ2 imm2 _ s2 _ _ _ r2 _ => Snd.pure r2 trivial
    show Snd prog Φ _ (do standAt p; unpack val (assignEach elts Φ.env)) _ σ' imm' s'
    refine Snd.stand ?_
    unfold unpack
    rw [hlen, hstar, he]
    have key := Snd.bind (ρ' := fun _ _ (_ : Unit) (_ : Unit) => True) (g := fun ws st => setTGs ts vs st) (f := fun ws => assignInOrder fs ws) (Snd.holding (vs := [val]) (snd_items O r' hv hvl)) fun ws st2 σ2 imm2 vals s2 e1 hp hi r2 hws => by
      exact snd_inOrder O hf r2 hws.2
    exact key
  · exact Snd.fail
theorem SX_asgS (O : Ok prog Φ lv) {ts : List TG} {elts : List Expr} {xs : List Str} {k : Nat} {e : Expr} {p pos : Pos} {d : Mo V} (h : SE prog Φ e d) (hf : AllF Φ ts.reverse (xs.reverse.map fun n => bindName Φ.env n)) (hlen : xs.length = ts.length)
    (hs : swapsWithSole [.Tuple elts k p] e pos.line Φ.env = pure false) (hw : swappedStores [.Tuple elts k p] e Φ.env = pure (some xs)) :
    SX prog Φ (.Assign [.Tuple elts k p] e pos) (mAsgS ts d) := fun σ imm st s r => by
  rw [exec_Assign_arm]
  refine Snd.stand ?_
  rw [hs, pure_bind, if_neg (by decide)]
  refine Snd.bind (h _ _ _ _ r) fun v st' σ' imm' val s' _ _ _ r' hv => ?_
  rw [hw, pure_bind]
  split
  · rename_i vs e0
    intro hne
    have hvl := ite_ne hne
    rw [if_pos hvl] at hne ⊢
    refine (Snd.rule (Snd.bind (ρ' := FR) (g := fun ws st => (setTGs ts.reverse vs.reverse st).bind fun _ st => R.ok FV.next st) (f := fun items => do assignInOrder (xs.reverse.map fun n => bindName Φ.env n) items.reverse; pure .next) (snd_items O r' hv (hvl.trans hlen.symm)) fun ws st2 σ2 imm2 vals s2 e1 hp hi r2 hws => ?_)) hne
    refine Snd.bind (ρ := fun _ _ (_ : Unit) (_ : Unit) => True) ?_ fun _ st3 σ3 imm3 _ s3 _ _ _ r3 _ => Snd.pure r3 trivial
    refine snd_inOrder O hf r2 ?_
    have rev : ∀ {us : List V} {ys : List Value}, VRs (kno imm2 Φ.Hk) σ2 us ys → VRs (kno imm2 Φ.Hk) σ2 us.reverse ys.reverse := by
      intro us
      induction us with
      | nil => intro ys h; simp only [VRs] at h; subst h; simp [VRs]
      | cons u us ih =>
        intro ys h
        simp only [VRs] at h
        obtain ⟨y, zs, rfl, h1, h2⟩ := h
        rw [List.reverse_cons, List.reverse_cons]
        exact (ih h2).append (VRs.one h1)
    exact rev hws.2
  · exact Snd.fail
end
end Mine
end
section
/-! text F13 -/
open PySem PySem.W PyProof.Rows
set_option Elab.async false
set_option autoImplicit false
set_option linter.unusedVariables false
namespace Mine
open Sem (wp)

section
variable {prog : Program} {Φ : Act} {lv : Nat} {σ : List Addr} {imm : List (Addr × Obj)} {st : St} {s : Shared}
noncomputable def mAsgSub (o i : Mo V) (v : Mo V) : Mo FV := fun st => (v st).bind fun v st => (o st).bind fun o st => (i st).bind fun i st => (setV o i v st).bind fun _ st => .ok .next st
theorem SX_asgSub (O : Ok prog Φ lv) {o i e : Expr} {p pos : Pos} {dO di de : Mo V} (ho : SE prog Φ o dO) (hi : SE prog Φ i di) (he : SE prog Φ e de)
    (hs : swapsWith e (some (.Subscript o i p)) pos.line Φ.env = pure false) : SX prog Φ (.Assign [.Subscript o i p] e pos) (mAsgSub dO di de) := fun σ imm st s r => by
  rw [exec_Assign_Subscript _ _ _ _ _ hs]
  refine Snd.stand (Snd.bind (he _ _ _ _ r) fun v st1 σ1 imm1 x s1 _ hp1 hi1 r1 hv => ?_)
  rw [assign_Subscript]
  have key : ∀ rl : Value → Value → List Value, Snd prog Φ (fun _ _ (_ : Unit) (_ : Unit) => True) (do
      let ov ← PySem.holding [x] (eval o Φ.env)
      let iv ← PySem.holding [x, ov] (eval i Φ.env)
      standAt p
      PySem.holding [x, ov, iv] (setItem ov iv x)
      release (rl ov iv) []) ((dO st1).bind fun o st => (di st).bind fun i st => (setV o i v st)) σ1 imm1 s1 := fun rl => by
    refine Snd.bind (Snd.holding (ho _ _ _ _ r1)) fun vo st2 σ2 imm2 xo s2 _ hp2 hi2 r2 hvo => ?_
    refine Snd.bind (Snd.holding (hi _ _ _ _ r2)) fun vi st3 σ3 imm3 xi s3 _ hp3 hi3 r3 hvi => Snd.stand ?_
    have e1 : setV vo vi v st3 = (setV vo vi v st3).bind fun u st => .ok u st := by cases setV vo vi v st3 <;> rfl
    rw [e1]
    refine Snd.bind (Snd.holding (snd_setV O r3 (hvo.mono (kno.leI hi3) hp3) hvi ((hv.mono (kno.leI hi2) hp2).mono (kno.leI hi3) hp3))) fun _ st4 σ4 imm4 _ s4 _ _ _ r4 _ => ?_
    exact Snd.leaf rfl (wpAny_release (r4.here (ρ := fun _ _ (_ : Unit) (_ : Unit) => True) (b := ()) (a := ()) trivial))
  have e2 : ((dO st1).bind fun o st => (di st).bind fun i st => (setV o i v st).bind fun _ st => R.ok FV.next st) = ((dO st1).bind fun o st => (di st).bind fun i st => (setV o i v st)).bind fun _ st => R.ok FV.next st := by
    cases dO st1 with
    | ok a b =>
      simp only [R.bind]
      cases di b <;> rfl
    | exc => rfl
    | fail => rfl
  show Snd prog Φ FR _ ((dO st1).bind fun o st => (di st).bind fun i st => (setV o i v st).bind fun _ st => R.ok FV.next st) σ1 imm1 s1
  rw [e2]
  exact Snd.bind (key _) fun _ st4 σ4 imm4 _ s4 _ _ _ r4 _ => Snd.pure r4 trivial

/-! what leaves a loop -/
theorem cameBack_mono {M : Model} {A : Around} {env : Env} {E E' : Value → Shared → Prop} {e : Value} {s : Shared} (h : cameBackBy M A env E e s) (hE : ∀ e s, E e s → E' e s) : cameBackBy M A env E' e s :=
  wpAny_mono h (fun _ s h => hE _ s h) hE
theorem noted_mono {M : Model} {A : Around} {env : Env} {E E' : Value → Shared → Prop} {e : Value} {s : Shared} (h : notedBy M A env E e s) (hE : ∀ e s, E e s → E' e s) : notedBy M A env E' e s :=
  wpAny_mono h (fun _ s h => hE _ s h) hE
theorem passes {c : Prop} {e : Value} {s : Shared} (hc : c) (h : Eb prog Φ e s) :
    notedBy (model prog Φ.w) Φ.A Φ.env (cameBackBy (model prog Φ.w) Φ.A Φ.env fun e s => c ∧ Eb prog Φ e s) e s :=
  noted_mono (PassesOwn.leaving (M := model prog Φ.w) (A := Φ.A) (env := Φ.env) e s h) fun _ _ h => cameBack_mono h fun _ _ h => ⟨hc, h⟩

theorem code_while {test : Expr} {body : List Stmt} {dt : Mo Bool} {db : Mo FV} (ht : ST prog Φ test dt) (hb : SXs prog Φ body db) : ∀ (n : Nat) (σ : List Addr) (imm : List (Addr × Obj)) (st : St) (s : Shared), Rel prog Φ σ imm st s → mWhile dt db n st ≠ .fail →
    codeC (model prog Φ.w) Φ.A (.whileLoop test body [] Φ.env) (fun r s' => match r with
      | .ok f => ∃ b st' σ' imm', mWhile dt db n st = .ok b st' ∧ σ <+: σ' ∧ ImmLe imm imm' ∧ Rel prog Φ σ' imm' st' s' ∧ FR (kno imm' Φ.Hk) σ' b f
      | .error e => cameBackBy (model prog Φ.w) Φ.A Φ.env (fun e s' => mWhile dt db n st = .exc ∧ Eb prog Φ e s') e s') s
  | 0, _, _, _, _, _, hne => absurd rfl hne
  | n + 1, σ, imm, st, s, r, hne => by
    have hne0 := hne
    unfold mWhile at hne
    have h1 : dt st ≠ .fail := fun e => hne (by rw [e]; rfl)
    refine codeC_whileTurn (wpC_mono (ht _ _ _ _ r h1) ?_ ?_)
    · rintro x s1 ⟨b, st1, σ1, imm1, e1, hp1, hi1, r1, rfl⟩
      rw [e1] at hne
      simp only [R.bind] at hne
      cases b with
      | false =>
        simp only [Bool.false_eq_true, if_false]
        refine ⟨.next, st1, σ1, imm1, ?_, hp1, hi1, r1, trivial⟩
        unfold mWhile
        rw [e1]; rfl
      | true =>
        simp only [if_true] at hne ⊢
        have h2 : db st1 ≠ .fail := fun e => hne (by rw [e])
        refine wpC_mono (hb _ _ _ _ r1 h2) ?_ ?_
        · rintro f s2 ⟨fv, st2, σ2, imm2, e2, hp2, hi2, r2, hf⟩
          rw [e2] at hne
          simp only [R.bind] at hne
          cases fv with
          | next =>
            cases f <;> first | exact hf.elim | skip
            refine codeC_mono (code_while ht hb n σ2 imm2 st2 s2 r2 hne) ?_
            have e3 : mWhile dt db (n + 1) st = mWhile dt db n st2 := by
              conv => lhs; unfold mWhile
              rw [e1]; simp only [R.bind, if_true, e2]
            rintro (e | f) s3 h3
            · exact cameBack_mono h3 fun e s h => ⟨e3.trans h.1, h.2⟩
            · obtain ⟨b3, st3, σ3, imm3, q1, q2, q3, q4, q5⟩ := h3
              exact ⟨b3, st3, σ3, imm3, e3.trans q1, hp1.trans (hp2.trans q2), hi1.trans (hi2.trans q3), q4, q5⟩
          | ret v =>
            cases f <;> first | exact hf.elim | skip
            refine ⟨.ret v, st2, σ2, imm2, ?_, hp1.trans hp2, hi1.trans hi2, r2, hf⟩
            unfold mWhile
            rw [e1]; simp only [R.bind, if_true, e2]
        · rintro e s2 ⟨q1, q2⟩
          refine passes ?_ q2
          unfold mWhile
          rw [e1]; simp only [R.bind, if_true, q1]
    · rintro e s1 ⟨q1, q2⟩
      refine passes ?_ q2
      unfold mWhile
      rw [q1]; rfl
theorem SX_while {test : Expr} {body : List Stmt} {pos : Pos} {dt : Mo Bool} {db : Mo FV} (n : St → Nat) (ht : ST prog Φ test dt) (hb : SXs prog Φ body db) : SX prog Φ (.While test body [] pos) (fun st => mWhile dt db (n st) st) := fun σ imm st s r hne =>
  wpC_While (codeC_mono (code_while ht hb (n st) σ imm st s r hne) fun r s' h => by
    cases r with
    | ok f => exact h
    | error e => exact h)
end
end Mine
end
section
/-! text F14 -/
open PySem PySem.W PyProof.Rows
set_option Elab.async false
set_option autoImplicit false
set_option linter.unusedVariables false
set_option genSizeOf false
set_option genInjectivity false
namespace Mine
open Sem (wp)

/-! ranges -/
noncomputable def fRange : List V → Mo V
  | [.int b], st => .ok (.rng 0 b 1) st
  | [.int a, .int b], st => .ok (.rng a b 1) st
  | [.int a, .int b, .int c], st => if 0 < c ∧ c < 1073741824 then .ok (.rng a b c) st else .fail
  | _, _ => .fail
/-- where a loop's values come from -/
inductive Src where
  | rgn (a c : Int) (n : Nat) | list (v : V)
noncomputable def srcAt : Src → Nat → St → Option (Option V)
  | .rgn a c n, i, _ => if i < n then some (some (.int (a + i * c))) else some none
  | .list v, i, st => (listOf v st).map fun vs => vs[i]?
noncomputable def rngN (a b c : Int) : Nat := if a < b then ((b - a - 1) / c + 1).toNat else 0
noncomputable def srcOf : V → Mo Src
  | .rng a b c, st => if 0 < c ∧ c < 1000 ∧ -1048576 ≤ a ∧ a ≤ 1048576 ∧ -1048576 ≤ b ∧ b ≤ 1048576 then .ok (.rgn a c (rngN a b c)) st else .fail
  | v, st => match listOf v st with
    | some vs => if vs.length ≤ 1048576 then .ok (.list v) st else .fail
    | none => .fail
noncomputable def srcFuel : Src → St → Nat
  | .rgn _ _ n, _ => n + 1
  | .list v, st => ((listOf v st).getD []).length + 1
noncomputable def ItO (kn : Addr → Obj → Prop) (σ : List Addr) : Src → Nat → Obj → Prop
  | .rgn a c n, i, o => o = { cls := .type "range_iterator", dict := none, data := .fields #[rawInt (a + (i : Nat) * c), rawInt ((n : Int) - (i : Nat)), rawInt c], slots := #[] }
  | .list v, i, o => o.cls = .type "list_iterator" ∧ ∃ a, o.data = .fields #[.ref a, .int i 0] ∧ VR kn σ v (.ref a)
theorem ItO.mono {kn kn' : Addr → Obj → Prop} {σ σ' : List Addr} (h1 : KnLe kn kn') (h2 : σ <+: σ') : ∀ {src : Src} {i : Nat} {o : Obj}, ItO kn σ src i o → ItO kn' σ' src i o
  | .rgn _ _ _, _, _, h => h
  | .list _, _, _, ⟨hc, a, hd, hv⟩ => ⟨hc, a, hd, hv.mono h1 h2⟩
theorem ItO.notSolid {kn : Addr → Obj → Prop} {σ : List Addr} : ∀ {src : Src} {i : Nat} {o : Obj}, ItO kn σ src i o → ¬ Solid o
  | .rgn _ _ _, _, _, h => by
    subst h
    rintro (h | h | h)
    · exact absurd (show Value.type "range_iterator" = .type "tuple" from h) (by decide)
    · exact absurd (show Value.type "range_iterator" = .type "list" from h) (by decide)
    · exact absurd (show Value.type "range_iterator" = .type "range" from h) (by decide)
  | .list _, _, _, ⟨hc, _⟩ => by
    rintro (h | h | h) <;> rw [hc] at h <;> exact absurd h (by decide)
/-- an iterator's object goes -/
noncomputable def dropI (imm : List (Addr × Obj)) (I : Addr) : List (Addr × Obj) := imm.filter fun p => p.1 != I
theorem mem_dropI {imm : List (Addr × Obj)} {I : Addr} {p : Addr × Obj} (h : p ∈ imm) (hn : p.1 ≠ I) : p ∈ dropI imm I := List.mem_filter.mpr ⟨h, by simpa using hn⟩

section
variable {prog : Program} {Φ : Act} {lv : Nat} {σ : List Addr} {imm : List (Addr × Obj)} {st : St} {s : Shared}
theorem Rel.dropLe (r : Rel prog Φ σ imm st s) {I : Addr} {o : Obj} (hI : (I, o) ∈ imm) (hn : ¬ Solid o) : KnLe (kno imm Φ.Hk) (kno (dropI imm I) Φ.Hk) := fun a o' hs hk => by
  rcases hk with hk | hk
  · refine .inl (mem_dropI hk fun e => hn ?_)
    have h1 := r.immK _ hk
    have h2 := r.immK _ hI
    simp only at e
    subst e
    have := h1.symm.trans h2
    cases this
    exact hs
  · exact .inr hk
theorem Rel.drop (r : Rel prog Φ σ imm st s) {I : Addr} {o : Obj} {h' : Heap} {tk : Nat} (hI : (I, o) ∈ imm) (hn : ¬ Solid o) (hs : ∀ b o', b ≠ I → s.heap.get? b = some o' → h'.get? b = some o') : Rel prog Φ σ (dropI imm I) st { s with heap := h', toks := tk } := by
  have hle := r.dropLe hI hn
  obtain ⟨n1, n2, n3⟩ := r.newI _ hI
  refine ⟨r.gens, r.drawn, r.os, fun b o h => hs b o (ne_of_get h n1) (r.keep b o h), ?_, r.len, ?_, ?_, ?_, r.newL, ?_, ?_, r.newO, r.nod, r.pre, r.hk, r.noSys, r.low⟩
  · obtain ⟨m, e1, e2⟩ := r.loc
    refine ⟨m, ?_, fun i x v q1 q2 => let ⟨val, q3, q4⟩ := e2 i x v q1 q2; ⟨val, q3, q4.mono hle (List.prefix_refl _)⟩⟩
    obtain ⟨oL, es, ep, q1, q2⟩ := e1
    exact ⟨oL, es, ep, hs _ _ (Ne.symm n2) q1, q2⟩
  · intro k a c e1 e2
    obtain ⟨o', q1, q2⟩ := r.cells k a c e1 e2
    exact ⟨o', hs _ _ (Ne.symm ((r.newC a (List.mem_of_getElem? e1)).2.2.1 _ hI)) q1, q2.mono hle (List.prefix_refl _)⟩
  · intro p hp
    obtain ⟨h1, h2⟩ := List.mem_filter.mp hp
    exact hs _ _ (by simpa using h2) (r.immK p h1)
  · intro p hp
    obtain ⟨oL, es, ep, q1, q2⟩ := r.outs p hp
    exact ⟨oL, es, ep, hs _ _ (Ne.symm (n3 p hp)) q1, q2⟩
  · intro a ha
    obtain ⟨x1, x2, x3, x4⟩ := r.newC a ha
    exact ⟨x1, x2, fun p hp => x3 p (List.mem_filter.mp hp).1, x4⟩
  · intro p hp
    exact r.newI p (List.mem_filter.mp hp).1
theorem snd_range (O : Ok prog Φ lv) (r : Rel prog Φ σ imm st s) {vs : List V} {xs : List Value} (h : VRs (kno imm Φ.Hk) σ vs xs) : Snd prog Φ VR (call (.type "range") xs) (fRange vs st) σ imm s := by
  have fin : ∀ {a b c : Int} {t u v : Tok} {tk : Nat}, ∃ σ' imm', σ <+: σ' ∧ ImmLe imm imm' ∧ Rel prog Φ σ' imm' st { s with heap := s.heap.push { cls := .type "range", data := .fields #[.int a t, .int b u, .int c v] }, toks := tk } ∧ VR (kno imm' Φ.Hk) σ' (.rng a b c) (.ref s.heap.objs.size) := fun {a b c t u v tk} => by
    have r' := r.pushImm { cls := .type "range", data := .fields #[.int a t, .int b u, .int c v] } rfl tk
    refine ⟨σ, _, List.prefix_refl _, .of_sub fun p hp => List.mem_append_left _ hp, r', ?_⟩
    simp only [VR]
    exact ⟨_, t, u, v, rfl, .inl (List.mem_append_right _ (List.mem_singleton.mpr rfl))⟩
  unfold fRange
  split
  · obtain ⟨x, rfl, hx⟩ := one h
    simp only [VR] at hx
    obtain ⟨t, rfl⟩ := hx
    exact Snd.leaf rfl (call_range_1 fin)
  · obtain ⟨x, y, rfl, hx, hy⟩ := two h
    simp only [VR] at hx hy
    obtain ⟨t, rfl⟩ := hx
    obtain ⟨u, rfl⟩ := hy
    exact Snd.leaf rfl (call_range_2 fin)
  · simp only [VRs] at h
    obtain ⟨x, xs', rfl, hx, y, ys, rfl, hy, z, zs, rfl, hz, rfl⟩ := h
    simp only [VR] at hx hy hz
    obtain ⟨t, rfl⟩ := hx
    obtain ⟨u, rfl⟩ := hy
    obtain ⟨v, rfl⟩ := hz
    refine Snd.ite fun hc => ?_
    exact Snd.leaf rfl (PySem.call_range_3 (by lia) fin (Or.inl (PyProof.noPylong_small (by lia))))
  · exact Snd.fail
theorem rng_size {a b c : Int} (hc : 0 < c) : Builtin.Range.rangeSize a b c = (rngN a b c : Nat) := by
  unfold Builtin.Range.rangeSize rngN
  rw [if_pos hc]
  split
  · have : 0 ≤ (b - a - 1) / c := Int.ediv_nonneg (by lia) (by lia)
    lia
  · rfl
theorem rng_small {a b c : Int} (hc : 0 < c) (hc2 : c < 1000) (h1 : -1048576 ≤ a) (h2 : a ≤ 1048576) (h3 : -1048576 ≤ b) (h4 : b ≤ 1048576) : Builtin.Range.small a b c = true := by
  have hs : 0 ≤ Builtin.Range.rangeSize a b c ∧ Builtin.Range.rangeSize a b c ≤ 4194304 := by
    unfold Builtin.Range.rangeSize
    rw [if_pos hc]
    split
    · have h5 : 0 ≤ (b - a - 1) / c := Int.ediv_nonneg (by lia) (by lia)
      have h6 : (b - a - 1) / c ≤ b - a - 1 := Int.ediv_le_self _ (by lia)
      lia
    · lia
  unfold Builtin.Range.small Builtin.Range.rangeFitsLong
  rw [if_pos hc]
  simp only [Bool.and_eq_true, Bool.or_eq_true, decide_eq_true_eq]
  lia
/-- a source, at its beginning -/
noncomputable def AtSrc (prog : Program) (Φ : Act) (imm0 : List (Addr × Obj)) : VRel Src Value := fun kn σ src it => ∃ I o, it = .ref I ∧ (∀ p ∈ imm0, p.1 ≠ I) ∧ ItO kn σ src 0 o
theorem snd_iter (r : Rel prog Φ σ imm st s) {v : V} {x : Value} (h : VR (kno imm Φ.Hk) σ v x) (hne : srcOf v st ≠ .fail) :
    wpAny (model prog Φ.w) Φ.A (pyIter x) (fun it s' => ∃ src I o imm', srcOf v st = .ok src st ∧ it = .ref I ∧ ImmLe imm imm' ∧ (∀ p ∈ imm, p.1 ≠ I) ∧ (I, o) ∈ imm' ∧ ItO (kno imm' Φ.Hk) σ src 0 o ∧ Rel prog Φ σ imm' st s') (fun _ _ => False) s := by
  have hfree := (r.free (get_size s.heap)).2.2.2.1
  unfold srcOf at hne ⊢
  split at hne
  · rename_i a b c
    have hc := ite_ne hne
    obtain ⟨h1, h2, h3, h4, h5, h6⟩ := hc
    simp only [VR] at h
    obtain ⟨ad, t, u, v, rfl, hk⟩ := h
    refine wpAny_pyIter_range (r.known hk) (rng_small h1 h2 h3 h4 h5 h6) ?_
    have r' := r.pushImm { cls := .type "range_iterator", data := .fields #[rawInt a, rawInt (Builtin.Range.rangeSize a b c), rawInt c] } rfl s.toks
    refine ⟨.rgn a c (rngN a b c), _, _, _, ?_, rfl, .of_sub fun p hp => List.mem_append_left _ hp, hfree, List.mem_append_right _ (List.mem_singleton.mpr rfl), ?_, r'⟩
    · simp only [if_pos (show 0 < c ∧ c < 1000 ∧ -1048576 ≤ a ∧ a ≤ 1048576 ∧ -1048576 ≤ b ∧ b ≤ 1048576 from ⟨h1, h2, h3, h4, h5, h6⟩)]
    · show ({ cls := _, dict := _, data := _, slots := _ } : Obj) = _
      rw [rng_size h1]
      simp
  · rename_i hn
    split at hne
    · rename_i vs e
      have hc := ite_ne hne
      obtain ⟨a, vals, rfl, hl, hv⟩ := r.listAt h e
      refine wpAny_pyIter_list hl ?_
      have r' := r.pushImm { cls := .type "list_iterator", data := .fields #[.ref a, .int 0 0] } rfl s.toks
      refine ⟨.list v, _, _, _, ?_, rfl, .of_sub fun p hp => List.mem_append_left _ hp, hfree, List.mem_append_right _ (List.mem_singleton.mpr rfl), ?_, r'⟩
      · simp only [if_pos hc]
      · exact ⟨rfl, a, rfl, h.mono (kno.le fun p hp => List.mem_append_left _ hp) (List.prefix_refl _)⟩
    · exact absurd rfl hne
noncomputable def NextPost (prog : Program) (Φ : Act) (σ : List Addr) (imm : List (Addr × Obj)) (st : St) (src : Src) (I : Addr) (i : Nat) : Option V → Option Value → Shared → Prop
  | none, res, s' => res = none ∧ Rel prog Φ σ (dropI imm I) st s'
  | some v, res, s' => ∃ x o', res = some x ∧ Rel prog Φ σ (dropI imm I ++ [(I, o')]) st s' ∧ ItO (kno (dropI imm I ++ [(I, o')]) Φ.Hk) σ src (i + 1) o' ∧ VR (kno (dropI imm I ++ [(I, o')]) Φ.Hk) σ v x
theorem snd_next (O : Ok prog Φ lv) (r : Rel prog Φ σ imm st s) {src : Src} {I : Addr} {o : Obj} {i : Nat} {w : Option V} (hI : (I, o) ∈ imm) (ho : ItO (kno imm Φ.Hk) σ src i o) (hs : srcAt src i st = some w) :
    wpAny (model prog Φ.w) Φ.A (pyNext (.ref I)) (NextPost prog Φ σ imm st src I i w) (fun _ _ => False) s := by
  have hget := r.immK _ hI
  have hns := ho.notSolid
  obtain ⟨n1, n2, n3⟩ := r.newI _ hI
  have hIσ : I ∉ σ := fun hm => (r.newC I hm).2.2.1 _ hI rfl
  have turn : ∀ {h' : Heap} {tk : Nat} {o' : Obj}, (∀ b o', b ≠ I → s.heap.get? b = some o' → h'.get? b = some o') → h'.get? I = some o' → Rel prog Φ σ (dropI imm I ++ [(I, o')]) st { s with heap := h', toks := tk } := fun h1 h2 =>
    (r.drop hI hns h1).addImm h2 n1 n2 hIσ n3
  have hle : ∀ o', KnLe (kno imm Φ.Hk) (kno (dropI imm I ++ [(I, o')]) Φ.Hk) := fun o' => (r.dropLe hI hns).trans (kno.le fun p hp => List.mem_append_left _ hp)
  cases src with
  | rgn a c n =>
    simp only [ItO] at ho
    subst ho
    simp only [srcAt] at hs
    by_cases hi : i < n
    · rw [if_pos hi] at hs
      cases hs
      refine wpAny_pyNext_range_item hget (by lia) fun h' hit hsb => ?_
      refine ⟨_, _, rfl, turn (fun b o' hb e => (hsb.2 b hb).trans e) hit, ?_, .int⟩
      simp only [ItO]
      have e1 : a + ((i + 1 : Nat) : Int) * c = a + (i : Int) * c + c := by push_cast; rw [Int.add_mul, Int.one_mul, Int.add_assoc]
      have e2 : (n : Int) - ((i + 1 : Nat) : Int) = (n : Int) - (i : Int) - 1 := by push_cast; lia
      rw [e1, e2]
    · rw [if_neg hi] at hs
      cases hs
      refine wpAny_pyNext_range_end O.hh hget (by lia) fun h' he => ?_
      exact ⟨rfl, r.drop (tk := s.toks) hI hns fun b o' hb e => he b o' hb e⟩
  | list v =>
    obtain ⟨hc, a, hd, hv⟩ := ho
    simp only [srcAt] at hs
    obtain ⟨vs, e, rfl⟩ := Option.map_eq_some_iff.mp hs
    obtain ⟨a', vals, e', hl, hvs⟩ := r.listAt hv e
    cases e'
    have hit : s.heap.IsListIter I a i := ⟨o, hget, hc, hd⟩
    cases hx : vs[i]? with
    | none =>
      have hn : vals.toArray[i]? = none := by
        have := List.getElem?_eq_none_iff.mp hx
        rw [← hvs.length] at this
        simpa using this
      refine wpAny_pyNext_list_end O.hh hit hl hn fun h' he => ?_
      exact ⟨rfl, r.drop (tk := s.toks) hI hns fun b o' hb e => he b o' hb e⟩
    | some v1 =>
      obtain ⟨x, hx1, hx2⟩ := hvs.get hx
      refine wpAny_pyNext_list_item hit hl (x := x) (by simpa using hx1) fun h' hit' hsb => ?_
      obtain ⟨o', q1, q2, q3⟩ := hit'
      exact ⟨x, o', rfl, turn (tk := s.toks) (fun b o' hb e => (hsb.2 b hb).trans e) q1, ⟨q2, a, q3, hv.mono (hle o') (List.prefix_refl _)⟩, hx2.mono (hle o') (List.prefix_refl _)⟩

/-! for -/
noncomputable def mForI (src : Src) (asg : V → Mo Unit) (b : Mo FV) : Nat → Nat → Mo FV
  | 0, _ => fun _ => .fail
  | n + 1, i => fun st => match srcAt src i st with
    | none => .fail
    | some none => .ok .next st
    | some (some v) => (asg v st).bind fun _ st => (b st).bind fun f st => match f with
      | .next => mForI src asg b n (i + 1) st
      | .ret v => .ok (.ret v) st
noncomputable def mForS (d : Mo V) (asg : V → Mo Unit) (b : Mo FV) : Mo FV := fun st => (d st).bind fun v st => (srcOf v st).bind fun src st => mForI src asg b (srcFuel src st) 0 st
/-- a target is assigned -/
noncomputable def SA (prog : Program) (Φ : Act) (t : Expr) (asg : V → Mo Unit) : Prop :=
  ∀ σ imm st s v x, Rel prog Φ σ imm st s → VR (kno imm Φ.Hk) σ v x → Snd prog Φ (fun _ _ (_ : Unit) (_ : Unit) => True) (assign t Φ.env x) (asg v st) σ imm s
theorem SA_name (O : Ok prog Φ lv) {t : TG} {x : Str} {p : Pos} (h : IsTG Φ t x) : SA prog Φ (.Name x p) (setTG t) := fun σ imm st s v y r hv => by
  rw [PySem.assign_Name]
  exact Snd.stand (snd_TG O h r hv)
noncomputable def setTup (ts : List TG) : V → Mo Unit
  | .tup vs, st => if vs.length = ts.length then setTGs ts vs st else .fail
  | _, _ => .fail
theorem SA_tup (O : Ok prog Φ lv) {ts : List TG} {elts : List Expr} {fs : List (Value → Sem Unit)} {k : Nat} {p : Pos} (hf : AllF Φ ts fs)
    (he : (assignEach elts Φ.env).map (·.2) = fs) (hlen : (assignEach elts Φ.env).length = ts.length) (hstar : (assignEach elts Φ.env).findIdx? (·.1) = none) : SA prog Φ (.Tuple elts k p) (setTup ts) := fun σ imm st s v x r hv => by
  show Snd prog Φ _ (do standAt p; unpack x (assignEach elts Φ.env)) _ σ imm s
  refine Snd.stand ?_
  unfold setTup
  split
  · rename_i vs
    intro hne
    have hvl := ite_ne hne
    rw [if_pos hvl] at hne ⊢
    revert hne
    unfold unpack
    rw [hlen, hstar, he]
    exact Snd.bind (ρ' := fun _ _ (_ : Unit) (_ : Unit) => True) (g := fun ws st => setTGs ts vs st) (f := fun ws => assignInOrder fs ws) (Snd.holding (vs := [x]) (snd_items O r hv hvl)) fun ws st2 σ2 imm2 vals s2 e1 hp hi r2 hws => snd_inOrder O hf r2 hws.2
  · exact Snd.fail
theorem owned_go {M : Model} {A : Around} {E : Value → Shared → Prop} {t : Expr} {I : Addr} {o : Obj} {x : Value} {src : Src} {i : Nat} {kn : Addr → Obj → Prop} {Q : Unit → Shared → Prop} (hget : s.heap.get? I = some o) (ho : ItO kn σ src i o) (h : Q () s) : wpAny M A (letOwnedTupleGo t (.ref I) x) Q E s := by
  unfold letOwnedTupleGo
  have main : wpAny M A (do
      let (.ref r, .ref a) := ((Value.ref I, x) : Value × Value) | return
      let o ← load r
      match o.cls, o.data with
      | .type n, .fields vs =>
        if ["enumerate", "zip", "dict_itemiterator", "dict_reverseitemiterator", "odict_iterator", "itertools.zip_longest", "itertools.pairwise"].contains n && vs[0]? == some (rawInt a) then
          rule "for.unpacks-the-owned-tuple"
          updateField r 0 .none
      | _, _ => pure ()) Q E s := by
    cases x with
    | ref a =>
      refine wpAny_bind (wpAny_load hget ?_)
      cases src with
      | rgn a c n =>
        simp only [ItO] at ho
        subst ho
        exact bm_if_false (by rw [show (["enumerate", "zip", "dict_itemiterator", "dict_reverseitemiterator", "odict_iterator", "itertools.zip_longest", "itertools.pairwise"] : List String).contains "range_iterator" = false from by decide +kernel]; rfl) (wpAny_pure h)
      | list v =>
        obtain ⟨hc, a, hd, hv⟩ := ho
        rw [hc, hd]
        exact bm_if_false (by rw [show (["enumerate", "zip", "dict_itemiterator", "dict_reverseitemiterator", "odict_iterator", "itertools.zip_longest", "itertools.pairwise"] : List String).contains "list_iterator" = false from by decide +kernel]; rfl) (wpAny_pure h)
    | _ => exact wpAny_pure h
  cases t <;> first | exact main | exact wpAny_pure h
end
end Mine
end
section
/-! text F15 -/
open PySem PySem.W PyProof.Rows
set_option Elab.async false
set_option autoImplicit false
set_option linter.unusedVariables false
namespace Mine
open Sem (wp)

theorem codeC_forTurn2 {prog : Program} {w : World} {A : Around} {R : Result → Shared → Prop} {s : Shared} {env : Env} {target : Expr} {it : Value} {body : List Stmt}
    (h : wpC (model prog w) A (pyNext it) (fun r s₁ => match r with
      | none => R (.ok .next) s₁
      | some v => wpC (model prog w) A (do letOwnedTupleGo target it v; assign target env v) (fun _ s₂ => wpC (model prog w) A (execs body env) (fun f s₃ => match f with
          | .next | .cont => codeC (model prog w) A (.forLoop target it body [] env) R s₃
          | .brk => R (.ok .next) s₃
          | .ret v => R (.ok (.ret v)) s₃) (notedBy (model prog w) A env fun e s' => R (.error e) s') s₂) (notedBy (model prog w) A env fun e s' => R (.error e) s') s₁) (notedBy (model prog w) A env fun e s' => R (.error e) s') s) :
    codeC (model prog w) A (.forLoop target it body [] env) R s := by
  refine codeC_of_tree rfl ?_
  show wpC _ _ ((forTurn target it body [] env).onRaise (fun x => do noteFrame x env; theTreesLotGoes x)) _ _ s
  refine wpC_noted ?_
  simp only [forTurn]
  refine wpC_bind (wpC_standAt (wpC_bind (wpC_onRaise (wpC_mono h (fun r s₁ h₁ => ?_) fun _ _ h' => wpC_standAt h'))))
  cases r with
  | none => exact wpC_pure ⟨rfl, codeC_blockNil (Q := fun _ => True) h₁⟩
  | some v =>
    have h₂ : wpC (model prog w) A (do letOwnedTupleGo target it v; assign target env v) (fun _ s₂ => wpC (model prog w) A (execs body env >>= fun f => match f with
        | .next | .cont => again (.forLoop target it body [] env)
        | .brk => pure (.done .next)
        | .ret v => pure (.done (.ret v))) (fun fin s' => match fin with
        | .done f => R (.ok f) s'
        | .again c' => c'.quiet = true ∧ codeC (model prog w) A c' R s') (notedBy (model prog w) A env fun e s' => R (.error e) s') s₂) (notedBy (model prog w) A env fun e s' => R (.error e) s') s₁ := by
      refine wpC_mono h₁ (fun _ s₂ h₂ => wpC_bind (wpC_mono h₂ (fun f s₃ h₃ => ?_) fun _ _ h' => h')) fun _ _ h' => h'
      cases f with
      | next => exact wpC_pure ⟨rfl, h₃⟩
      | cont => exact wpC_pure ⟨rfl, h₃⟩
      | brk => exact wpC_pure h₃
      | ret v => exact wpC_pure h₃
    intro Γ p g1 g2 g3
    have h3 := h₂ Γ p g1 g2 g3
    rw [Sem.wp_bind'] at h3
    rw [Sem.wp_bind']
    refine Sem.wp_mono _ Γ _ (fun _ p' s' h4 => ?_) (fun _ _ _ h4 => h4) p s₁ h3
    rw [Sem.wp_bind']
    exact Sem.wp_mono _ Γ _ (fun _ p'' s'' h5 => h5 Γ p'' g1 g2 g3) (fun _ _ _ h5 => h5) p' s' h4

section
variable {prog : Program} {Φ : Act} {lv : Nat} {σ : List Addr} {imm : List (Addr × Obj)} {st : St} {s : Shared}
theorem ImmLe.drop {a b : List (Addr × Obj)} (h : ImmLe a b) (I : Addr) : ImmLe (dropI a I) (dropI b I) := fun p hp => by
  obtain ⟨h1, h2⟩ := List.mem_filter.mp hp
  exact mem_dropI (h p h1) (by simpa using h2)
theorem dropI_app (a : List (Addr × Obj)) (I : Addr) (o : Obj) : dropI (dropI a I ++ [(I, o)]) I = dropI a I := by
  unfold dropI
  rw [List.filter_append, List.filter_filter]
  simp
theorem code_for (O : Ok prog Φ lv) {target : Expr} {body : List Stmt} {asg : V → Mo Unit} {db : Mo FV} (ha : SA prog Φ target asg) (hb : SXs prog Φ body db) (src : Src) (I : Addr) : ∀ (n i : Nat) (σ : List Addr) (imm : List (Addr × Obj)) (st : St) (s : Shared) (o : Obj),
    Rel prog Φ σ imm st s → (I, o) ∈ imm → ItO (kno imm Φ.Hk) σ src i o → mForI src asg db n i st ≠ .fail →
    codeC (model prog Φ.w) Φ.A (.forLoop target (.ref I) body [] Φ.env) (fun r s' => match r with
      | .ok f => ∃ b st' σ' imm', mForI src asg db n i st = .ok b st' ∧ σ <+: σ' ∧ ImmLe (dropI imm I) imm' ∧ Rel prog Φ σ' imm' st' s' ∧ FR (kno imm' Φ.Hk) σ' b f
      | .error e => cameBackBy (model prog Φ.w) Φ.A Φ.env (fun e s' => mForI src asg db n i st = .exc ∧ Eb prog Φ e s') e s') s
  | 0, _, _, _, _, _, _, _, _, _, hne => absurd rfl hne
  | n + 1, i, σ, imm, st, s, o, r, hI, ho, hne => by
    have hd : ∀ w, srcAt src i st = w → mForI src asg db (n + 1) i st = (match w with
      | none => .fail
      | some none => .ok .next st
      | some (some v) => (asg v st).bind fun _ st => (db st).bind fun f st => match f with
        | .next => mForI src asg db n (i + 1) st
        | .ret v => .ok (.ret v) st) := fun w hw => by subst hw; rfl
    cases hw : srcAt src i st with
    | none => exact absurd (hd _ hw) hne
    | some w =>
      have hd' := hd _ hw
      refine codeC_forTurn2 (wpC_mono (wpC_of (snd_next O r hI ho hw)) ?_ fun _ _ x => x.elim)
      intro res s1 h1
      cases w with
      | none =>
        obtain ⟨rfl, r1⟩ := h1
        exact ⟨.next, st, σ, _, hd', List.prefix_refl _, .refl _, r1, trivial⟩
      | some v =>
        obtain ⟨x, o', rfl, r1, ho1, hv1⟩ := h1
        rw [hd'] at hne
        simp only at hne hd'
        have ha' : asg v st ≠ .fail := fun e => hne (by rw [e]; rfl)
        have hI1 : (I, o') ∈ dropI imm I ++ [(I, o')] := List.mem_append_right _ (List.mem_singleton.mpr rfl)
        refine wpC_bind (wpC_of (owned_go (r1.immK _ hI1) ho1 ?_))
        refine wpC_mono (ha _ _ _ _ _ _ r1 hv1 ha') ?_ ?_
        · rintro _ s2 ⟨_, st2, σ2, imm2, e2, hp2, hi2, r2, _⟩
          rw [e2] at hne hd'
          simp only [R.bind] at hne hd'
          have hb' : db st2 ≠ .fail := fun e => hne (by rw [e])
          refine wpC_mono (hb _ _ _ _ r2 hb') ?_ ?_
          · rintro f s3 ⟨fv, st3, σ3, imm3, e3, hp3, hi3, r3, hf⟩
            rw [e3] at hne hd'
            simp only at hne hd'
            have hi13 : ImmLe (dropI imm I) (dropI imm3 I) := by
              have := (hi2.trans hi3).drop I
              rwa [dropI_app] at this
            cases fv with
            | next =>
              cases f <;> first | exact hf.elim | skip
              refine codeC_mono (code_for O ha hb src I n (i + 1) σ3 imm3 st3 s3 o' r3 (hi3 _ (hi2 _ hI1)) (ho1.mono ((kno.leI (hi2.trans hi3))) (hp2.trans hp3)) hne) ?_
              rintro (e | f) s4 h4
              · exact cameBack_mono h4 fun e s h => ⟨hd'.trans h.1, h.2⟩
              · obtain ⟨b4, st4, σ4, imm4, q1, q2, q3, q4, q5⟩ := h4
                exact ⟨b4, st4, σ4, imm4, hd'.trans q1, hp2.trans (hp3.trans q2), hi13.trans q3, q4, q5⟩
            | ret v =>
              cases f <;> first | exact hf.elim | skip
              refine ⟨.ret v, st3, σ3, imm3, hd', hp2.trans hp3, ?_, r3, hf⟩
              exact fun p hp => (List.mem_filter.mp (hi13 p hp)).1
          · rintro e s3 ⟨q1, q2⟩
            rw [q1] at hd'
            exact passes hd' q2
        · rintro e s2 ⟨q1, q2⟩
          rw [q1] at hd'
          exact passes hd' q2
theorem SX_for (O : Ok prog Φ lv) {target iter : Expr} {body : List Stmt} {pos : Pos} {d : Mo V} {asg : V → Mo Unit} {db : Mo FV} (hd : SE prog Φ iter d) (ha : SA prog Φ target asg) (hb : SXs prog Φ body db)
    (hs : ∀ x, foldedSetIterable iter Φ.env x = pure x) : SX prog Φ (.For target iter body [] pos) (mForS d asg db) := fun σ imm st s r => by
  rw [exec_For]
  refine Snd.stand (Snd.bind (hd _ _ _ _ r) fun v st1 σ1 imm1 x s1 _ hp1 hi1 r1 hv => ?_)
  rw [hs, pure_bind]
  refine Snd.stand ?_
  intro hne
  have hsrc : srcOf v st1 ≠ .fail := fun e => hne (by rw [e]; rfl)
  refine wpC_bind (wpC_holding (wpC_of (wpAny_mono (snd_iter r1 hv hsrc) ?_ fun _ _ x => x.elim)))
  rintro it s2 ⟨src, I, o, imm2, e2, rfl, hi2, hn2, hI, hO, r2⟩
  rw [e2] at hne ⊢
  refine wpC_runOwn (codeC_mono (code_for O ha hb src I _ 0 _ _ _ _ o r2 hI hO hne) ?_)
  rintro (e | f) s3 h3
  · exact h3
  · obtain ⟨b3, st3, σ3, imm3, q1, q2, q3, q4, q5⟩ := h3
    exact ⟨b3, st3, σ3, imm3, q1, q2, fun p hp => q3 p (mem_dropI (hi2 p hp) (hn2 p hp)), q4, q5⟩
end
end Mine
end
section
/-! text F16 -/
open PySem PySem.W PyProof.Rows
set_option Elab.async false
set_option autoImplicit false
set_option linter.unusedVariables false
namespace Mine
open Sem (wp)

/-- a heap without some of its things -/
noncomputable def hide (h : Heap) (as : List Addr) : Heap := as.foldl (fun h a => h.update a fun o => { o with data := .freed }) h
theorem hide1_self (h : Heap) (a : Addr) : (h.update a fun o => { o with data := .freed }).get? a = none := by
  obtain ⟨objs, l⟩ := h
  show (match (objs.modify a _)[a]? with | some ⟨_, _, .freed, _⟩ => none | o => o) = none
  rw [Array.getElem?_modify]
  simp only [if_true]
  cases objs[a]? with
  | none => rfl
  | some o => rfl
theorem hide1_size (h : Heap) (a : Addr) : (h.update a fun o => { o with data := .freed }).objs.size = h.objs.size := by
  obtain ⟨objs, l⟩ := h
  show (objs.modify a _).size = _
  rw [Array.size_modify]
theorem hide_size : ∀ (as : List Addr) (h : Heap), (hide h as).objs.size = h.objs.size
  | [], h => rfl
  | a :: as, h => (hide_size as _).trans (hide1_size h a)
theorem hide_in : ∀ (as : List Addr) (h : Heap) (b : Addr), (b ∈ as ∨ h.get? b = none) → (hide h as).get? b = none
  | [], h, b, hb => by
    rcases hb with hb | hb
    · exact absurd hb (by simp)
    · exact hb
  | a :: as, h, b, hb => by
    refine hide_in as _ b ?_
    by_cases e : b = a
    · subst e
      exact .inr (hide1_self h b)
    · rcases hb with hb | hb
      · rcases List.mem_cons.mp hb with hb | hb
        · exact absurd hb e
        · exact .inl hb
      · exact .inr ((Heap.get?_update_other _ _ (Ne.symm e)).trans hb)
theorem hide_out : ∀ (as : List Addr) (h : Heap) (b : Addr), b ∉ as → (hide h as).get? b = h.get? b
  | [], h, b, hb => rfl
  | a :: as, h, b, hb => by
    rw [List.mem_cons, not_or] at hb
    exact (hide_out as _ b hb.2).trans (Heap.get?_update_other _ _ (Ne.symm hb.1))
theorem hide_sub {as : List Addr} {h : Heap} {b : Addr} {o : Obj} (e : (hide h as).get? b = some o) : b ∉ as ∧ h.get? b = some o := by
  by_cases hb : b ∈ as
  · rw [hide_in as h b (.inl hb)] at e; cases e
  · exact ⟨hb, (hide_out as h b hb).symm.trans e⟩

/-! values that name no cell -/
mutual
noncomputable def V.flat : V → Bool
  | .ref _ => false
  | .tup vs => flats vs
  | .lst vs => flats vs
  | _ => true
noncomputable def flats : List V → Bool
  | [] => true
  | v :: vs => v.flat && flats vs
end
mutual
theorem VR.flat {kn : Addr → Obj → Prop} {σ τ : List Addr} : ∀ {v : V} {x : Value}, v.flat = true → VR kn σ v x → VR kn τ v x
  | .none, _, _, h => by simpa only [VR] using h
  | .bool _, _, _, h => by simpa only [VR] using h
  | .int _, _, _, h => by simpa only [VR] using h
  | .bytes _, _, _, h => by simpa only [VR] using h
  | .rng _ _ _, _, _, h => by simpa only [VR] using h
  | .ref _, _, e, _ => by simp [V.flat] at e
  | .tup vs, _, e, h => by
    simp only [VR] at h ⊢
    simp only [V.flat] at e
    obtain ⟨a, o, n, vals, e1, hk, hc, hd, hv⟩ := h
    exact ⟨a, o, n, vals, e1, hk, hc, hd, VRs.flat e hv⟩
  | .lst vs, _, e, h => by
    simp only [VR] at h ⊢
    simp only [V.flat] at e
    obtain ⟨a, o, n, vals, e1, hk, hc, hd, hv⟩ := h
    exact ⟨a, o, n, vals, e1, hk, hc, hd, VRs.flat e hv⟩
theorem VRs.flat {kn : Addr → Obj → Prop} {σ τ : List Addr} : ∀ {vs : List V} {xs : List Value}, flats vs = true → VRs kn σ vs xs → VRs kn τ vs xs
  | [], _, _, h => by simpa only [VRs] using h
  | v :: vs, _, e, h => by
    simp only [VRs] at h ⊢
    simp only [flats, Bool.and_eq_true] at e
    obtain ⟨y, ys, e1, hv, hs⟩ := h
    exact ⟨y, ys, e1, VR.flat e.1 hv, VRs.flat e.2 hs⟩
end
noncomputable def Cell.flat : Cell → Bool
  | .list vs => flats vs
  | .barr _ => true
  | .dict _ _ => true
  | .box (some v) => v.flat
  | .box .none => true
theorem CellO.flat {prog : Program} {w : World} {kn : Addr → Obj → Prop} {σ τ : List Addr} : ∀ {c : Cell} {o : Obj}, c.flat = true → CellO prog w kn σ c o → CellO prog w kn τ c o
  | .list _, _, e, ⟨a, b, n, vals, d, h⟩ => ⟨a, b, n, vals, d, VRs.flat e h⟩
  | .barr _, _, _, h => h
  | .dict _ _, _, _, h => h
  | .box (some v), _, e, ⟨x, d, y, e1, h⟩ => ⟨x, d, y, e1, VR.flat e h⟩
  | .box .none, _, _, h => h
/-- a value that a call gives back: lists of the call's own stand still from now on -/
noncomputable def deref1 (cs : List Cell) (n : Nat) : V → Option V
  | .ref k => if k < n then none else match cs[k]? with
    | some (.list vs) => if flats vs = true then some (.lst vs) else none
    | _ => none
  | v => if v.flat = true then some v else none
noncomputable def derefs (cs : List Cell) (n : Nat) : List V → Option (List V)
  | [] => some []
  | v :: vs => match deref1 cs n v, derefs cs n vs with
    | some w, some ws => some (w :: ws)
    | _, _ => none
noncomputable def deref (cs : List Cell) (n : Nat) : V → Option V
  | .tup vs => (derefs cs n vs).map .tup
  | v => deref1 cs n v

section
variable {prog : Program}
theorem deref1_ok {kn kn' : Addr → Obj → Prop} {σ τ : List Addr} {cs : List Cell} {n : Nat} {get : Addr → Option Obj} {w : World} (hle : KnLe kn kn')
    (hc : ∀ (k : Nat) (a : Addr) (c : Cell), σ[k]? = some a → cs[k]? = some c → ∃ o, get a = some o ∧ CellO prog w kn σ c o) (hk : ∀ (k : Nat) (a : Addr) (o : Obj), n ≤ k → σ[k]? = some a → get a = some o → kn' a o)
    {v v' : V} {x : Value} (e : deref1 cs n v = some v') (h : VR kn σ v x) : VR kn' τ v' x := by
  have triv : ∀ v : V, v.flat = true → VR kn σ v x → VR kn' τ v x := fun v hf h => (VR.flat hf h).mono hle (List.prefix_refl _)
  unfold deref1 at e
  split at e
  · rename_i k
    split at e
    · cases e
    · rename_i hlt
      split at e
      · rename_i vs hcs
        split at e
        · rename_i hf
          cases e
          simp only [VR] at h
          obtain ⟨a, ha, rfl⟩ := h
          obtain ⟨o, ho, h1, h2, m, vals, h3, h4⟩ := hc k a _ ha hcs
          simp only [VR]
          exact ⟨a, o, m, vals, rfl, hk k a o (by lia) ha ho, h1, h3, (VRs.flat hf h4).mono hle (List.prefix_refl _)⟩
        · cases e
      · cases e
  · split at e
    · rename_i hf
      cases e
      exact triv _ hf h
    · cases e
theorem derefs_ok {kn kn' : Addr → Obj → Prop} {σ τ : List Addr} {cs : List Cell} {n : Nat} {get : Addr → Option Obj} {w : World} (hle : KnLe kn kn')
    (hc : ∀ (k : Nat) (a : Addr) (c : Cell), σ[k]? = some a → cs[k]? = some c → ∃ o, get a = some o ∧ CellO prog w kn σ c o) (hk : ∀ (k : Nat) (a : Addr) (o : Obj), n ≤ k → σ[k]? = some a → get a = some o → kn' a o) :
    ∀ {vs vs' : List V} {xs : List Value}, derefs cs n vs = some vs' → VRs kn σ vs xs → VRs kn' τ vs' xs
  | [], _, _, e, h => by
    cases e
    simpa only [VRs] using h
  | v :: vs, _, _, e, h => by
    unfold derefs at e
    split at e
    · rename_i w ws e1 e2
      cases e
      simp only [VRs] at h ⊢
      obtain ⟨y, ys, rfl, hv, hs⟩ := h
      exact ⟨y, ys, rfl, deref1_ok hle hc hk e1 hv, derefs_ok hle hc hk e2 hs⟩
    · cases e
theorem deref_ok {kn kn' : Addr → Obj → Prop} {σ τ : List Addr} {cs : List Cell} {n : Nat} {get : Addr → Option Obj} {w : World} (hle : KnLe kn kn')
    (hc : ∀ (k : Nat) (a : Addr) (c : Cell), σ[k]? = some a → cs[k]? = some c → ∃ o, get a = some o ∧ CellO prog w kn σ c o) (hk : ∀ (k : Nat) (a : Addr) (o : Obj), n ≤ k → σ[k]? = some a → get a = some o → kn' a o)
    {v v' : V} {x : Value} (e : deref cs n v = some v') (h : VR kn σ v x) : VR kn' τ v' x := by
  unfold deref at e
  split at e
  · obtain ⟨ws, e1, rfl⟩ := Option.map_eq_some_iff.mp e
    simp only [VR] at h ⊢
    obtain ⟨a, o, m, vals, e2, hka, hcl, hd, hv⟩ := h
    exact ⟨a, o, m, vals, e2, hle a o (.inl hcl) hka, hcl, hd, derefs_ok hle hc hk e1 hv⟩
  · exact deref1_ok hle hc hk e h
end
end Mine
end
section
/-! text F17 -/
open PySem PySem.W PyProof.Rows
set_option Elab.async false
set_option autoImplicit false
set_option linter.unusedVariables false
namespace Mine
open Sem (wp)

/-- what a call stands upon -/
noncomputable def unk (Φ : Act) (imm : List (Addr × Obj)) (s : Shared) : List Addr := (List.range s.heap.objs.size).filter fun a => !((Φ.Hk.get? a).isSome || decide (a ∈ imm.map (·.1)))
noncomputable def callee (Φ : Act) (imm : List (Addr × Obj)) (s : Shared) (σp : List Addr) (env' : Env) (m : Str → Option Value) (bxa : List Addr) (names : List Str) : Act :=
  { Φ with H0 := hide s.heap (σp ++ Φ.L :: Φ.outs.map (·.1)), Hk := hide s.heap (unk Φ imm s), A := Φ.A.deeper env', env := env', L := s.heap.objs.size, outer := Φ.stk, stk := env' :: Φ.stk, outs := (Φ.L, m) :: Φ.outs, sig0 := σp ++ bxa, s0 := s, names := names }
/-- an activation of a def's own -/
noncomputable def OkF (Φ : Act) : Prop := Φ.stk = Φ.env :: Φ.outer ∧ Φ.env.frame = some Φ.L

section
variable {prog : Program} {Φ : Act} {lv : Nat} {σ σp bxa : List Addr} {imm : List (Addr × Obj)} {st : St} {s : Shared} {env' : Env} {m : Str → Option Value} {names : List Str}
theorem hid_no (r : Rel prog Φ σ imm st s) (hσp : ∀ a ∈ σp, a ∈ σ) {b : Addr} {o : Obj} (h : Φ.H0.get? b = some o) : b ∉ σp ++ Φ.L :: Φ.outs.map (·.1) := by
  intro hb
  rcases List.mem_append.mp hb with hb | hb
  · have := (r.newC b (hσp b hb)).1; rw [h] at this; cases this
  · rcases List.mem_cons.mp hb with rfl | hb
    · have := none_of_size r.newL; rw [h] at this; cases this
    · obtain ⟨p, hp, rfl⟩ := List.mem_map.mp hb
      have := (r.newO p hp).1; rw [h] at this; cases this
theorem H0sub (r : Rel prog Φ σ imm st s) (hσp : ∀ a ∈ σp, a ∈ σ) {b : Addr} {o : Obj} (h : Φ.H0.get? b = some o) : (callee Φ imm s σp env' m bxa names).H0.get? b = some o :=
  (hide_out _ _ _ (hid_no r hσp h)).trans (r.keep b o h)
theorem immsub (r : Rel prog Φ σ imm st s) (hσp : ∀ a ∈ σp, a ∈ σ) {p : Addr × Obj} (h : p ∈ imm) : (callee Φ imm s σp env' m bxa names).H0.get? p.1 = some p.2 := by
  refine (hide_out _ _ _ ?_).trans (r.immK p h)
  obtain ⟨n1, n2, n3⟩ := r.newI p h
  intro hb
  rcases List.mem_append.mp hb with hb | hb
  · exact (r.newC _ (hσp _ hb)).2.2.1 p h rfl
  · rcases List.mem_cons.mp hb with e | hb
    · exact n2 e
    · obtain ⟨q, hq, e⟩ := List.mem_map.mp hb
      exact n3 q hq e.symm
theorem Hk_iff (r : Rel prog Φ σ imm st s) {b : Addr} {o : Obj} : (callee Φ imm s σp env' m bxa names).Hk.get? b = some o ↔ kno imm Φ.Hk b o := by
  constructor
  · intro h
    obtain ⟨h1, h2⟩ := hide_sub h
    have hb : ((Φ.Hk.get? b).isSome || decide (b ∈ imm.map (·.1))) = true := by
      cases e : ((Φ.Hk.get? b).isSome || decide (b ∈ imm.map (·.1))) with
      | true => rfl
      | false => exact absurd (List.mem_filter.mpr ⟨List.mem_range.mpr (Heap.lt_size h2), by rw [e]; rfl⟩) h1
    rw [Bool.or_eq_true, decide_eq_true_eq] at hb
    rcases hb with hb | hb
    · obtain ⟨o', e⟩ := Option.isSome_iff_exists.mp hb
      have e2 := r.keep _ _ (r.hk _ _ e)
      rw [h2] at e2; cases e2
      exact .inr e
    · obtain ⟨p, hp, rfl⟩ := List.mem_map.mp hb
      have e2 := r.immK p hp
      rw [h2] at e2; cases e2
      exact .inl hp
  · intro h
    refine (hide_out _ _ _ fun hb => ?_).trans (r.known h)
    have hb' := (List.mem_filter.mp hb).2
    rcases h with h | h
    · have : decide (b ∈ imm.map (·.1)) = true := decide_eq_true (List.mem_map_of_mem (f := (·.1)) h)
      rw [this] at hb'; simp at hb'
    · rw [h] at hb'; simp at hb'
theorem knsub (r : Rel prog Φ σ imm st s) : KnLe (kno imm Φ.Hk) (kno [] (callee Φ imm s σp env' m bxa names).Hk) := fun a o _ hk =>
  .inr ((Hk_iff r).mpr hk)
theorem Rel.lt_of (r : Rel prog Φ σ imm st s) : Φ.L < s.heap.objs.size ∧ (∀ p ∈ Φ.outs, p.1 < s.heap.objs.size) ∧ ∀ a ∈ σ, a < s.heap.objs.size := by
  obtain ⟨m, hn, _⟩ := r.loc
  refine ⟨hn.lt, fun p hp => (r.outs p hp).lt, fun a ha => ?_⟩
  obtain ⟨k, hk, e⟩ := List.getElem_of_mem ha
  have e1 : σ[k]? = some a := by rw [List.getElem?_eq_getElem hk, e]
  obtain ⟨o, h1, _⟩ := r.cells k a _ e1 (List.getElem?_eq_getElem (r.len ▸ hk))
  exact Heap.lt_size h1
theorem ok_callee (O : Ok prog Φ (lv + 1)) (r : Rel prog Φ σ imm st s) (hσp : ∀ a ∈ σp, a ∈ σ) (h1 : env'.scope.kind = .function) (h2 : env'.frame = some s.heap.objs.size) (h3 : env'.locals = s.heap.objs.size)
    (h4 : env'.globals = mainGlobals) (h5 : env'.builtins = builtinsNs) (hn : names.Nodup) : Ok prog (callee Φ imm s σp env' m bxa names) lv where
  hh := O.hh
  fr := Around.frames_deeper O.fr
  lk := fun e he => by
    rcases List.mem_cons.mp he with rfl | he
    · exact ⟨by rw [h1]; decide, _, h2, .inl rfl⟩
    · obtain ⟨q1, a, q2, q3⟩ := O.lk e he
      refine ⟨q1, a, q2, .inr ?_⟩
      rcases q3 with rfl | ⟨m', q3⟩
      · exact ⟨m, List.mem_cons_self⟩
      · exact ⟨m', List.mem_cons_of_mem _ q3⟩
  dep := by have := O.dep; show Φ.A.depth + 1 + 10 * lv + 10 < recursionLimit; lia
  un := by have := O.un; show Φ.A.units + 3 + 100 * lv + 100 < cLine; lia
  kind := h1
  locals := h3
  globals := h4
  builtins := h5
  nod := hn
  X := fun a o e => H0sub r hσp (O.X a o e)
  g := O.g.keeps fun b o e => H0sub r hσp e
  b := O.b.keeps fun b o e => H0sub r hσp e
  lim := O.lim.keeps fun b o e => H0sub r hσp e
  bi := O.bi
theorem rel_callee {s₂ : Shared} {loc' : List (Option V)} {cellsp : List Cell} {m' : Str → Option Value} (r : Rel prog Φ σ imm st s) (hσp : ∀ a ∈ σp, a ∈ σ) (hnp : σp.Nodup) (hm : s.heap.Ns Φ.L m)
    (hk : ∀ b o, s.heap.get? b = some o → s₂.heap.get? b = some o) (hg : s₂.gens = s.gens) (hd : s₂.drawn = s.drawn) (ho : s₂.os = s.os)
    (hn : s₂.heap.Ns s.heap.objs.size m') (hloc : ∀ (i : Nat) (x : Str) (v : V), names[i]? = some x → loc'[i]? = some (some v) → ∃ val, m' x = some val ∧ VR (kno [] (callee Φ imm s σp env' m bxa names).Hk) (σp ++ bxa) v val)
    (hlen : σp.length = cellsp.length) (hcs : ∀ (k : Nat) (a : Addr) (c : Cell), σp[k]? = some a → cellsp[k]? = some c → ∃ o, s.heap.get? a = some o ∧ CellO prog Φ.w (kno imm Φ.Hk) σp c o)
    (hbx : ∀ c ∈ bxa, s.heap.objs.size < c ∧ ∃ o x, s₂.heap.get? c = some o ∧ o.data = .cell x) (hnb : bxa.Nodup) :
    Rel prog (callee Φ imm s σp env' m bxa names) (σp ++ bxa) [] ⟨loc', cellsp ++ bxa.map fun _ => .box none⟩ s₂ := by
  obtain ⟨l1, l2, l3⟩ := r.lt_of
  have hpp : σp <+: σp ++ bxa := List.prefix_append _ _
  have hsz : (callee Φ imm s σp env' m bxa names).H0.objs.size = s.heap.objs.size := hide_size _ _
  refine ⟨hg, hd, ho, fun b o e => hk b o (hide_sub e).2, ⟨m', hn, hloc⟩, by simp [hlen], ?_, fun p hp => absurd hp (by simp), ?_, by rw [hsz]; exact Nat.le_refl _, ?_, fun p hp => absurd hp (by simp), ?_, ?_, List.prefix_refl _, fun b o h => ?_, ?_, by rw [hsz]; exact Nat.lt_trans (Nat.lt_of_lt_of_le r.low r.newL) l1⟩
  · intro k a c e1 e2
    by_cases hlt : k < σp.length
    · rw [List.getElem?_append_left hlt] at e1
      have e2' : cellsp[k]? = some c := by
        have : (cellsp ++ bxa.map fun _ => Cell.box none)[k]? = some c := e2
        rwa [List.getElem?_append_left (hlen ▸ hlt)] at this
      obtain ⟨o, q1, q2⟩ := hcs k a c e1 e2'
      exact ⟨o, hk _ _ q1, q2.mono (knsub r) hpp⟩
    · rw [List.getElem?_append_right (by lia)] at e1
      have e2' : (bxa.map fun _ => Cell.box none)[k - cellsp.length]? = some c := by
        have : (cellsp ++ bxa.map fun _ => Cell.box none)[k]? = some c := e2
        rwa [List.getElem?_append_right (by lia)] at this
      rw [List.getElem?_map] at e2'
      obtain ⟨_, _, rfl⟩ := Option.map_eq_some_iff.mp e2'
      obtain ⟨_, o, x, q1, q2⟩ := hbx a (List.mem_of_getElem? e1)
      exact ⟨o, q1, x, q2, trivial⟩
  · intro p hp
    rcases List.mem_cons.mp hp with rfl | hp
    · exact hm.keeps hk
    · exact (r.outs p hp).keeps hk
  · intro a ha
    rcases List.mem_append.mp ha with ha | ha
    · obtain ⟨x1, x2, x3, x4⟩ := r.newC a (hσp a ha)
      refine ⟨hide_in _ _ _ (.inl (List.mem_append_left _ ha)), Nat.ne_of_lt (l3 a (hσp a ha)), fun p hp => absurd hp (by simp), fun p hp => ?_⟩
      rcases List.mem_cons.mp hp with rfl | hp
      · exact Ne.symm x2
      · exact x4 p hp
    · have hlt := (hbx a ha).1
      refine ⟨none_of_size (by rw [hsz]; exact Nat.le_of_lt hlt), Nat.ne_of_gt hlt, fun p hp => absurd hp (by simp), fun p hp => ?_⟩
      rcases List.mem_cons.mp hp with rfl | hp
      · exact Nat.ne_of_lt (Nat.lt_trans l1 hlt)
      · exact Nat.ne_of_lt (Nat.lt_trans (l2 p hp) hlt)
  · intro p hp
    rcases List.mem_cons.mp hp with rfl | hp
    · exact ⟨hide_in _ _ _ (.inl (List.mem_append_right _ List.mem_cons_self)), Nat.ne_of_lt l1⟩
    · exact ⟨hide_in _ _ _ (.inl (List.mem_append_right _ (List.mem_cons_of_mem _ (List.mem_map_of_mem hp)))), Nat.ne_of_lt (l2 p hp)⟩
  · rw [List.nodup_append]
    exact ⟨hnp, hnb, fun a ha b hb => Nat.ne_of_lt (Nat.lt_trans (l3 a (hσp a ha)) (hbx b hb).1)⟩
  · rcases (Hk_iff r).mp h with h | h
    · exact immsub r hσp h
    · exact H0sub r hσp (r.hk _ _ h)
  · intro hb
    rcases List.mem_append.mp hb with hb | hb
    · exact r.noSys (hσp _ hb)
    · exact absurd (hbx _ hb).1 (Nat.not_lt.mpr (Nat.le_of_lt (Nat.lt_trans (Nat.lt_of_lt_of_le r.low r.newL) l1)))

/-- what is known behind a call -/
noncomputable def frz (σ' : List Addr) (h : Heap) : List (Addr × Obj) := σ'.filterMap fun a => (h.get? a).map fun o => (a, o)
theorem mem_frz {σ' : List Addr} {h : Heap} {a : Addr} {o : Obj} : (a, o) ∈ frz σ' h ↔ a ∈ σ' ∧ h.get? a = some o := by
  unfold frz
  rw [List.mem_filterMap]
  constructor
  · rintro ⟨b, hb, e⟩
    obtain ⟨o', e1, e2⟩ := Option.map_eq_some_iff.mp e
    cases e2
    exact ⟨hb, e1⟩
  · rintro ⟨h1, h2⟩
    exact ⟨a, h1, by rw [h2]; rfl⟩
noncomputable def behind (Φ Ψ : Act) (σ σp : List Addr) (imm : List (Addr × Obj)) (σ' : List Addr) (imm' : List (Addr × Obj)) (s' : Shared) : List (Addr × Obj) :=
  imm ++ imm' ++ frz (σ'.drop σp.length) s'.heap
theorem behind_fine {Ψ : Act} {σ' : List Addr} {imm' : List (Addr × Obj)} {st' : St} {s' : Shared} (r : Rel prog Φ σ imm st s) (hσp : ∀ a ∈ σp, a ∈ σ) (hΨ : Ψ = callee Φ imm s σp env' m bxa names) (r' : Rel prog Ψ σ' imm' st' s')
    (hσ : ∀ a ∈ σ, a ∈ σp ∨ ∃ o, Ψ.H0.get? a = some o) : ∀ p ∈ behind Φ Ψ σ σp imm σ' imm' s', s'.heap.get? p.1 = some p.2 ∧ Φ.H0.get? p.1 = none ∧ p.1 ≠ Φ.L ∧ (∀ q ∈ Φ.outs, p.1 ≠ q.1) ∧ p.1 ∉ σ := by
  subst hΨ
  have hpre : σp ++ bxa <+: σ' := r'.pre
  have hdown : ∀ {a : Addr}, (callee Φ imm s σp env' m bxa names).H0.get? a = none → Φ.H0.get? a = none := fun {a} h => by
    cases e : Φ.H0.get? a with
    | none => rfl
    | some o => have := H0sub (env' := env') (m := m) (bxa := bxa) (names := names) r hσp e; rw [h] at this; cases this
  have hspl : σ' = σp ++ σ'.drop σp.length := by
    obtain ⟨t, rfl⟩ := hpre
    simp
  intro p hp
  unfold behind at hp
  rcases List.mem_append.mp hp with hp | hp
  · rcases List.mem_append.mp hp with hp | hp
    · obtain ⟨n1, n2, n3⟩ := r.newI p hp
      exact ⟨r'.keep _ _ (immsub r hσp hp), n1, n2, n3, fun hm => (r.newC _ hm).2.2.1 p hp rfl⟩
    · obtain ⟨n1, n2, n3⟩ := r'.newI p hp
      refine ⟨r'.immK p hp, hdown n1, n3 _ List.mem_cons_self, fun q hq => n3 q (List.mem_cons_of_mem _ hq), fun hm => ?_⟩
      rcases hσ _ hm with h | ⟨o, h⟩
      · exact (r'.newC _ (by rw [hspl]; exact List.mem_append_left _ h)).2.2.1 p hp rfl
      · rw [n1] at h; cases h
  · obtain ⟨h1, h2⟩ := mem_frz.mp (show (p.1, p.2) ∈ _ from hp)
    have hm' : p.1 ∈ σ' := List.mem_of_mem_drop h1
    obtain ⟨n1, n2, n3, n4⟩ := r'.newC _ hm'
    refine ⟨h2, hdown n1, Ne.symm (n4 _ List.mem_cons_self), fun q hq => Ne.symm (n4 q (List.mem_cons_of_mem _ hq)), fun hm => ?_⟩
    rcases hσ _ hm with h | ⟨o, h⟩
    · have hnd := r'.nod
      rw [hspl, List.nodup_append] at hnd
      exact hnd.2.2 _ h _ h1 rfl
    · rw [n1] at h; cases h
theorem behind_kn {Ψ : Act} {σ' : List Addr} {imm' : List (Addr × Obj)} {s' : Shared} (r : Rel prog Φ σ imm st s) (hΨ : Ψ = callee Φ imm s σp env' m bxa names) :
    KnLe (kno imm' Ψ.Hk) (kno (behind Φ Ψ σ σp imm σ' imm' s') Φ.Hk) := fun a o hs hk => by
  subst hΨ
  unfold behind
  rcases hk with hk | hk
  · exact .inl (List.mem_append_left _ (List.mem_append_right _ hk))
  · rcases (Hk_iff r).mp hk with h | h
    · exact .inl (List.mem_append_left _ (List.mem_append_left _ h))
    · exact .inr h
/-- behind a call -/
theorem rel_behind {Ψ : Act} {σ' : List Addr} {imm' : List (Addr × Obj)} {st' : St} {s' : Shared} {cells'' : List Cell} (r : Rel prog Φ σ imm st s) (hσp : ∀ a ∈ σp, a ∈ σ) (hm : LocOk Φ σ imm st m) (hΨ : Ψ = callee Φ imm s σp env' m bxa names) (r' : Rel prog Ψ σ' imm' st' s')
    (hσ : ∀ a ∈ σ, a ∈ σp ∨ ∃ o, Ψ.H0.get? a = some o) (hlen : σ.length = cells''.length)
    (hcs : ∀ (k : Nat) (a : Addr) (c : Cell), σ[k]? = some a → cells''[k]? = some c → ∃ o, s'.heap.get? a = some o ∧ CellO prog Φ.w (kno (behind Φ Ψ σ σp imm σ' imm' s') Φ.Hk) σ c o) :
    Rel prog Φ σ (behind Φ Ψ σ σp imm σ' imm' s') ⟨st.loc, cells''⟩ s' := by
  have fine := behind_fine r hσp hΨ r' hσ
  subst hΨ
  have hle : KnLe (kno imm Φ.Hk) (kno (behind Φ (callee Φ imm s σp env' m bxa names) σ σp imm σ' imm' s') Φ.Hk) := kno.le fun p hp => List.mem_append_left _ (List.mem_append_left _ hp)
  refine ⟨r'.gens.trans r.gens, r'.drawn.trans r.drawn, r'.os.trans r.os, fun b o h => r'.keep _ _ (H0sub r hσp h), ⟨m, r'.outs _ List.mem_cons_self, fun i x v q1 q2 => let ⟨val, q3, q4⟩ := hm i x v q1 q2; ⟨val, q3, q4.mono hle (List.prefix_refl _)⟩⟩, hlen, hcs, fun p hp => (fine p hp).1,
    fun p hp => r'.outs p (List.mem_cons_of_mem _ hp), r.newL, fun a ha => ?_, fun p hp => ?_, r.newO, r.nod, r.pre, r.hk, r.noSys, r.low⟩
  · obtain ⟨x1, x2, x3, x4⟩ := r.newC a ha
    exact ⟨x1, x2, fun p hp e => (fine p hp).2.2.2.2 (e ▸ ha), x4⟩
  · obtain ⟨_, h2, h3, h4, _⟩ := fine p hp
    exact ⟨h2, h3, h4⟩
end
end Mine
end
section
/-! text F18 -/
open PySem PySem.W PyProof.Rows
set_option Elab.async false
set_option autoImplicit false
set_option linter.unusedVariables false
set_option genSizeOf false
set_option genInjectivity false
namespace Mine
open Sem (wp)

section
variable {prog : Program} {w : World} {A : Around} {R : Result → Shared → Prop} {s : Shared}
theorem codeC_callC {a : Addr} {o : Obj} {fd : FuncData} {body : List Stmt} {vals : List Value} {binds : List (Str × Value)}
    (hroom : A.depth < recursionLimit) (ho : s.heap.get? a = some o) (hdata : o.data = .func fd) (hlim : s.heap.NoLimit) (hcd : s.heap.CodeRec fd.code fd.qualname)
    (hbody : fd.body = .stmts body) (hbind : bindArgs fd ⟨vals, []⟩ = pure binds) (hclo : fd.closure = [])
    (hkind : ∀ x ∈ binds, fd.scope.names.lookup x.1 = some .local)
    (h : ∀ s₁, InCallC s (callEnvC fd s.heap.objs.size a).locals (bindL (callEnvC fd s.heap.objs.size a).kindOf binds fun _ => none) (callEnvC fd s.heap.objs.size a).cells
        (bindC (callEnvC fd s.heap.objs.size a).kindOf binds fun _ => none) s₁ →
      wpC (model prog w) (A.deeper (callEnvC fd s.heap.objs.size a)) (execs body (callEnvC fd s.heap.objs.size a)) (fun f s' => R (.ok (.ret (match f with | .ret v => v | _ => .none))) s')
        (fun e s' => wpAny (model prog w) (A.deeper (callEnvC fd s.heap.objs.size a)) (leaving (callEnvC fd s.heap.objs.size a) e) (fun _ s'' => R (.error e) s'') (fun e' s'' => R (.error e') s'') s') s₁)
    (hco : fd.scope.isCoroutine = false) (hgen : fd.scope.isGenerator = false) (hk : fd.scope.kind = .function) :
    codeC (model prog w) A (.call (.ref a) ⟨vals, []⟩) R s := by
  refine codeC_of_tree rfl ?_
  show wpC _ A.in1 (callAny (.ref a) ⟨vals, []⟩) _ _ s
  simp only [callAny]
  refine wpC_bind (wpC_of (wpAny_load ho ?_))
  obtain ⟨c, oc, vs, tq, hc, hoc, hdc, hq⟩ := id hcd
  simp only [hdata, callFunction, hco, hgen, hbody, hc]
  refine wpC_bind (m := field (.ref c) 1) (wpC_of (wpAny_field hoc hdc hq ?_))
  refine wpC_bind (wpC_pure ?_)
  refine wpC_bind (wpC_of (wpAny_of_eq hbind ?_))
  rw [← hc, hclo]
  refine wpC_bind (wpC_of (wpAny_newFunctionEnv_cells hk (fun x hx => .inl (hkind x hx)) fun env he s₁ x => ?_))
  subst he
  refine wpC_bind (wpC_of (wpAny_enterFrame (hlim.keeps x.toInCall.keep) hroom ?_))
  exact wpC_pure ⟨rfl, codeC_func (h s₁ x)⟩
end

theorem bindL_other {kindOf : Str → Option NameKind} {x : Str} : ∀ {ps : List Str} {xs : List Value} {m : Str → Option Value}, x ∉ ps → bindL kindOf (ps.zip xs) m x = m x
  | [], _, _, _ => rfl
  | p :: ps, [], _, _ => rfl
  | p :: ps, y :: ys, m, h => by
    rw [List.mem_cons, not_or] at h
    show bindL kindOf (ps.zip ys) _ x = _
    rw [bindL_other h.2]
    split
    · exact if_neg h.1
    · rfl
theorem bindL_at {kindOf : Str → Option NameKind} : ∀ {ps : List Str} {xs : List Value} {m : Str → Option Value} {i : Nat} {p : Str} {v : Value}, ps.Nodup → (∀ p ∈ ps, kindOf p = some .local) → ps[i]? = some p → xs[i]? = some v → bindL kindOf (ps.zip xs) m p = some v
  | [], _, _, _, _, _, _, _, h, _ => by simp at h
  | q :: ps, [], _, _, _, _, _, _, _, h => by simp at h
  | q :: ps, y :: ys, m, i, p, v, hn, hk, h1, h2 => by
    obtain ⟨hq, hn'⟩ := List.nodup_cons.mp hn
    show bindL kindOf (ps.zip ys) (if kindOf q = some .local then fun z => if z = q then some y else m z else m) p = _
    cases i with
    | zero =>
      simp at h1 h2
      subst h1; subst h2
      rw [bindL_other hq, if_pos (hk q List.mem_cons_self)]
      simp
    | succ i =>
      simp at h1 h2
      exact bindL_at hn' (fun p hp => hk p (List.mem_cons_of_mem _ hp)) h1 h2

/-- what is known of a def of the text -/
structure FnK (K : Frag) (a : Addr) (fd : FuncData) (ps rest bx : List Str) (body : List Stmt) : Prop where
  look : ∃ o, K.lookup a = some o ∧ o.data = .func fd
  code : ∃ c oc vs t, fd.code = .ref c ∧ K.lookup c = some oc ∧ oc.data = .fields vs ∧ vs[1]? = some (.str fd.qualname t)
  body : fd.body = .stmts body
  bind : ∀ xs : List Value, xs.length = ps.length → bindArgs fd ⟨xs, []⟩ = pure (ps.zip xs)
  clo : fd.closure = []
  co : fd.scope.isCoroutine = false
  gen : fd.scope.isGenerator = false
  kind : fd.scope.kind = .function
  glob : fd.globals = mainGlobals
  bi : fd.builtins = builtinsNs
  nod : (ps ++ rest).Nodup
  loc : ∀ x ∈ ps, fd.scope.names.lookup x = some .local
  cells : ∀ n, cellsFrom n fd.scope.names [] = bx.map fun x => (x, n)
  bx1 : bx.length ≤ 1

theorem bx_lookup {bx : List Str} {n : Nat} {y : Str} (hb : bx.length ≤ 1) (hy : y ∈ bx) : (bx.map fun y => (y, n)).lookup y = some n := by
  match bx, hb, hy with
  | [z], _, hy =>
    rw [List.mem_singleton.mp hy]
    simp [List.lookup]
theorem bx_nodup {bx : List Str} {n : Nat} (hb : bx.length ≤ 1) : (bx.map fun _ => n).Nodup := by
  match bx, hb with
  | [], _ => simp
  | [z], _ => simp
theorem rep_map {α β γ : Type} (x : β) (y : γ) : ∀ l : List α, List.replicate l.length y = (l.map fun _ => x).map fun _ => y
  | [] => rfl
  | _ :: l => by rw [List.length_cons, List.replicate_succ, rep_map x y l]; rfl
noncomputable def retF : Flow → Value
  | .ret v => v
  | _ => .none
noncomputable def retV : FV → V
  | .next => .none
  | .ret v => v
theorem fr_ret {kn : Addr → Obj → Prop} {σ : List Addr} {fv : FV} {f : Flow} (hf : FR kn σ fv f) : VR kn σ (retV fv) (retF f) := by
  cases fv with
  | next => cases f <;> first | exact hf.elim | exact .none
  | ret v => cases f <;> first | exact hf.elim | exact hf
/-- a def's body, at its beginning -/
noncomputable def SB (prog : Program) (Ψ : Act) (body : List Stmt) (d : Mo FV) : Prop := ∀ σ st s, Rel prog Ψ σ [] st s → Snd prog Ψ FR (execs body Ψ.env) (d st) σ [] s
theorem SXs.sb {prog : Program} {Ψ : Act} {body : List Stmt} {d : Mo FV} (h : SXs prog Ψ body d) : SB prog Ψ body d := fun _ _ _ r => h _ _ _ _ r
noncomputable def fRet (pass : Bool) (st : St) (f : FV) (st' : St) : R V :=
  match deref st'.cells (if pass = true then st.cells.length else 0) (retV f) with
    | some v => if pass = true then (if (st'.cells.take st.cells.length).all Cell.flat = true then .ok v ⟨st.loc, st'.cells.take st.cells.length⟩ else .fail) else .ok v ⟨st.loc, st.cells⟩
    | none => .fail
noncomputable def fBeg (pass : Bool) (nrest nb : Nat) (vs : List V) (st : St) : St := ⟨vs.map some ++ List.replicate nrest none, (if pass = true then st.cells else []) ++ List.replicate nb (.box none)⟩
noncomputable def fCall (pass : Bool) (np nrest nb : Nat) (d : Mo FV) : List V → Mo V := fun vs st =>
  if vs.length = np ∧ (pass = true ∨ flats vs = true) then (d (fBeg pass nrest nb vs st)).bind (fRet pass st) else .fail

section
variable {prog : Program} {Φ : Act} {lv : Nat} {σ : List Addr} {imm : List (Addr × Obj)} {st : St} {s : Shared}
theorem flying_down {B B' : Heap} {l : List Env} {e : Addr} {cls a0 : Value} {h : Heap} (hs : ∀ b o, B.get? b = some o → B'.get? b = some o) (x : Heap.FlyingW B' l e cls a0 h) : Heap.FlyingW B l e cls a0 h := by
  have hn : ∀ {a : Addr}, B'.get? a = none → B.get? a = none := fun {a} q => by
    cases e : B.get? a with
    | none => rfl
    | some o => have := hs _ _ e; rw [q] at this; cases this
  have hf : ∀ l : List Env, h.FunFrames B' l → h.FunFrames B l := by
    intro l
    induction l with
    | nil => intro h; exact h
    | cons env l ih =>
      rintro ⟨q1, ⟨L, o, q2, q3, q4⟩, q5⟩
      exact ⟨q1, ⟨L, o, q2, hn q3, q4⟩, ih q5⟩
  obtain ⟨k1, k2, k3, oe, vs, T, oT, ts, k4, k5, k6, k7, k8, k9⟩ := x
  exact ⟨fun b o q => k1 b o (hs b o q), hn k2, hf l k3, oe, vs, T, oT, ts, k4, k5, k6, k7, hn k8, k9⟩
/-- the exception goes on -/
theorem goes_on (O : Ok prog Φ lv) (hF : OkF Φ) (r : Rel prog Φ σ imm st s) {Ψ : Act} {σp bxa : List Addr} {env' : Env} {m : Str → Option Value} {names : List Str} (hσp : ∀ a ∈ σp, a ∈ σ) (hΨ : Ψ = callee Φ imm s σp env' m bxa names)
    {e : Value} {s' : Shared} (h : XPost Ψ e s') : Eb prog Φ e s' := by
  subst hΨ
  obtain ⟨x, a0, rfl, hfl, hg, hd, ho, hout, _⟩ := h
  have hfl' : Heap.FlyingW Φ.H0 (Φ.env :: Φ.outer) x (.ref 44) a0 s'.heap := by
    have := flying_down (B := Φ.H0) (fun b o q => H0sub r hσp q) hfl
    rw [← hF.1]; exact this
  refine wpAny_leaves_onW (by rw [O.fr, hF.1]) hF.2 hfl' fun h' k1 k2 => ?_
  exact ⟨x, a0, rfl, k1, hg.trans r.gens, hd.trans r.drawn, ho.trans r.os, fun p hp => k2.ns (hout p (List.mem_cons_of_mem _ hp)), m, k2.ns (hout _ List.mem_cons_self)⟩
theorem callee_args {Ψ : Act} {σp bxa : List Addr} {env' : Env} {m : Str → Option Value} {names : List Str} (r : Rel prog Φ σ imm st s) (hΨ : Ψ = callee Φ imm s σp env' m bxa names) {pass : Bool} (hσ : σp = if pass = true then σ else []) {vs : List V} {xs : List Value}
    (hflat : pass = true ∨ flats vs = true) (h : VRs (kno imm Φ.Hk) σ vs xs) : VRs (kno [] Ψ.Hk) (σp ++ bxa) vs xs := by
  subst hΨ
  cases pass with
  | true => subst hσ; exact h.mono (knsub r) (List.prefix_append _ _)
  | false =>
    have hf : flats vs = true := by rcases hflat with h | h; cases h; exact h
    exact (VRs.flat hf h).mono (knsub r) (List.prefix_refl _)
theorem callee_keeps {Ψ : Act} {σp bxa : List Addr} {env' : Env} {m : Str → Option Value} {names : List Str} (r : Rel prog Φ σ imm st s) (hΨ : Ψ = callee Φ imm s σp env' m bxa names) {pass : Bool} (hp : σp = if pass = true then σ else []) :
    ∀ b ∈ σ, b ∈ σp ∨ ∃ o, Ψ.H0.get? b = some o := by
  subst hΨ
  intro b hb
  cases pass with
  | true => subst hp; exact .inl hb
  | false =>
    right
    obtain rfl : σp = [] := hp
    obtain ⟨j, hj, e⟩ := List.getElem_of_mem hb
    have e1 : σ[j]? = some b := by rw [List.getElem?_eq_getElem hj, e]
    obtain ⟨ob, q1, _⟩ := r.cells j b _ e1 (List.getElem?_eq_getElem (r.len ▸ hj))
    obtain ⟨n1, n2, n3, n4⟩ := r.newC b hb
    refine ⟨ob, (hide_out _ _ _ ?_).trans q1⟩
    intro hm
    rcases List.mem_cons.mp hm with e | hm
    · exact n2 e
    · obtain ⟨q, hq, e⟩ := List.mem_map.mp hm
      exact n4 q hq e
/-- the call's own activation at its beginning -/
theorem callee_rel {a : Addr} {fd : FuncData} {ps rest bx : List Str} {body : List Stmt} {pass : Bool} {Ψ : Act} {σp bxa : List Addr} {m : Str → Option Value} {s₁ : Shared} (k : FnK Φ.K a fd ps rest bx body)
    (r : Rel prog Φ σ imm st s) (hm1 : s.heap.Ns Φ.L m) {vs : List V} {xs : List Value} (hΨ : Ψ = callee Φ imm s σp (callEnvC fd s.heap.objs.size a) m bxa (ps ++ rest)) (hp : σp = if pass = true then σ else []) (hb : bxa = bx.map fun _ => s.heap.objs.size + 1)
    (hσp : ∀ b ∈ σp, b ∈ σ) (hxl : xs.length = ps.length) (hvl : xs.length = vs.length) (hargs : VRs (kno [] Ψ.Hk) (σp ++ bxa) vs xs)
    (x : InCall s (callEnvC fd s.heap.objs.size a).locals (bindL (callEnvC fd s.heap.objs.size a).kindOf (ps.zip xs) fun _ => none) s₁) (hbxa : ∀ c ∈ bxa, s.heap.objs.size < c ∧ ∃ o y, s₁.heap.get? c = some o ∧ o.data = .cell y) :
    Rel prog Ψ (σp ++ bxa) [] (fBeg pass rest.length bx.length vs st) s₁ := by
  obtain ⟨h₁, tk, hs₁⟩ := x.same
  have hnp : σp.Nodup := by
    cases pass with
    | true => subst hp; exact r.nod
    | false => subst hp; simp
  have hnb : bxa.Nodup := by subst hb; exact bx_nodup k.bx1
  have hkl : ∀ p ∈ ps, (callEnvC fd s.heap.objs.size a).kindOf p = some .local := fun p hp => k.loc p hp
  have hrep : List.replicate bx.length (Cell.box none) = bxa.map fun _ => Cell.box none := by subst hb; exact rep_map _ _ bx
  unfold fBeg
  rw [hrep]
  subst hΨ
  refine rel_callee r hσp hnp hm1 x.keep (by rw [hs₁]) (by rw [hs₁]) (by rw [hs₁]) x.ns ?_ ?_ ?_ hbxa hnb
  · intro i y v q1 q2
    have hi : i < vs.length := by
      rcases Nat.lt_or_ge i vs.length with h | h
      · exact h
      · rw [List.getElem?_append_right (by simpa using h)] at q2
        rw [List.getElem?_replicate] at q2
        split at q2 <;> cases q2
    rw [List.getElem?_append_left (by simpa using hi), List.getElem?_map] at q2
    obtain ⟨v', q3, q4⟩ := Option.map_eq_some_iff.mp q2
    cases q4
    rw [List.getElem?_append_left (by lia)] at q1
    obtain ⟨val, q5, q6⟩ := hargs.get q3
    exact ⟨val, bindL_at (List.nodup_append.mp k.nod).1 hkl q1 q5, q6⟩
  · cases pass with
    | true => subst hp; exact r.len
    | false => subst hp; rfl
  · intro j b c q1 q2
    cases pass with
    | true => subst hp; exact r.cells j b c q1 q2
    | false => subst hp; simp at q1
/-- what the call gives back -/
theorem callee_ret {pass : Bool} {bx : List Str} {Ψ : Act} {σp bxa σ' : List Addr} {imm' : List (Addr × Obj)} {env' : Env} {m : Str → Option Value} {names : List Str} {s' : Shared} {st' : St} {fv : FV} {f : Flow} (hpb : pass = true → bxa = [])
    (r : Rel prog Φ σ imm st s) (hm2 : LocOk Φ σ imm st m) (hΨ : Ψ = callee Φ imm s σp env' m bxa names) (hp : σp = if pass = true then σ else []) (hσp : ∀ b ∈ σp, b ∈ σ) (hσ : ∀ b ∈ σ, b ∈ σp ∨ ∃ o, Ψ.H0.get? b = some o)
    (hp' : σp ++ bxa <+: σ') (r' : Rel prog Ψ σ' imm' st' s') (hret : VR (kno imm' Ψ.Hk) σ' (retV fv) (retF f)) (hne : fRet pass st fv st' ≠ .fail) :
    ∃ b st'' σ'' imm'', fRet pass st fv st' = .ok b st'' ∧ σ <+: σ'' ∧ ImmLe imm imm'' ∧ Rel prog Φ σ'' imm'' st'' s' ∧ VR (kno imm'' Φ.Hk) σ'' b (retF f) := by
  have hle := behind_kn (σp := σp) (σ' := σ') (imm' := imm') (s' := s') r hΨ
  have hime : ImmLe imm (behind Φ Ψ σ σp imm σ' imm' s') := fun p hp => List.mem_append_left _ (List.mem_append_left _ hp)
  have hσpl : σp.length = (if pass = true then st.cells.length else 0) := by
    cases pass with
    | true => subst hp; exact r.len
    | false => subst hp; rfl
  unfold fRet at hne ⊢
  cases hde : deref st'.cells (if pass = true then st.cells.length else 0) (retV fv) with
  | none => rw [hde] at hne; exact absurd rfl hne
  | some v' =>
    rw [hde] at hne
    dsimp only at hne ⊢
    have hv : VR (kno (behind Φ Ψ σ σp imm σ' imm' s') Φ.Hk) σ v' (retF f) := by
      refine deref_ok hle r'.cells (fun k b ob hk hb hob => ?_) hde hret
      refine .inl (List.mem_append_right _ (mem_frz.mpr ⟨?_, hob⟩))
      rw [← hσpl] at hk
      have : (σ'.drop σp.length)[k - σp.length]? = some b := by rw [List.getElem?_drop, Nat.add_sub_cancel' hk]; exact hb
      exact List.mem_of_getElem? this
    cases pass with
    | true =>
      simp only [if_true] at hne ⊢
      have hfl := ite_ne hne
      rw [if_pos hfl]
      have hpre : σ <+: σ' := by have e : σp = σ := hp; rw [← e]; exact (List.prefix_append σp bxa).trans hp'
      refine ⟨v', _, σ, _, rfl, List.prefix_refl _, hime, rel_behind r hσp hm2 hΨ r' hσ ?_ ?_, hv⟩
      · rw [List.length_take, ← r'.len, ← r.len]
        have := hpre.length_le
        lia
      · intro j b c q1 q2
        have hj : j < st.cells.length := by
          have := (List.getElem?_eq_some_iff.mp q1).1
          rw [r.len] at this; exact this
        have q2' : st'.cells[j]? = some c := by rw [List.getElem?_take_of_lt hj] at q2; exact q2
        obtain ⟨ob, q3, q4⟩ := r'.cells j b c (pre_get hpre q1) q2'
        have hcf : c.flat = true := List.all_eq_true.mp hfl c (List.mem_of_getElem? q2)
        exact ⟨ob, q3, CellO.flat hcf (q4.mono hle (List.prefix_refl _))⟩
    | false =>
      simp only [Bool.false_eq_true, if_false] at hne ⊢
      refine ⟨v', _, σ, _, rfl, List.prefix_refl _, hime, rel_behind r hσp hm2 hΨ r' hσ r.len ?_, hv⟩
      intro j b c q1 q2
      obtain ⟨ob, q3, q4⟩ := r.cells j b c q1 q2
      have hb := List.mem_of_getElem? q1
      rcases hσ b hb with hbad | ⟨ob', q5⟩
      · subst hp; simp at hbad
      · have q6 := r'.keep _ _ q5
        subst hΨ
        have q7 := (hide_sub q5).2
        rw [q3] at q7
        cases q7
        exact ⟨ob, q6, q4.mono (kno.leI hime) (List.prefix_refl _)⟩
theorem snd_call {a : Addr} {fd : FuncData} {ps rest bx : List Str} {body : List Stmt} {pass : Bool} {d : Mo FV} (O : Ok prog Φ (lv + 1)) (k : FnK Φ.K a fd ps rest bx body) (hpb : pass = true → bx = [])
    (hd : ∀ Ψ : Act, Ψ.K = Φ.K → Ok prog Ψ lv → OkF Ψ → Ψ.names = ps ++ rest → Ψ.env = callEnvC fd Ψ.L a → (pass = false → Ψ.sig0 = bx.map fun _ => Ψ.L + 1) → SB prog Ψ body d)
    (r : Rel prog Φ σ imm st s) {vs : List V} {xs : List Value} (h : VRs (kno imm Φ.Hk) σ vs xs) (hx : OkF Φ ∨ fCall pass ps.length rest.length bx.length d vs st ≠ .exc) :
    Snd prog Φ VR (call (.ref a) xs) (fCall pass ps.length rest.length bx.length d vs st) σ imm s := by
  by_cases hpre : vs.length = ps.length ∧ (pass = true ∨ flats vs = true)
  case neg =>
    unfold fCall
    rw [if_neg hpre]
    exact Snd.fail
  have hfc : fCall pass ps.length rest.length bx.length d vs st = (d (fBeg pass rest.length bx.length vs st)).bind (fRet pass st) := if_pos hpre
  rw [hfc] at hx ⊢
  intro hne
  obtain ⟨hlen, hflat⟩ := hpre
  obtain ⟨o, hlook, hdata⟩ := k.look
  obtain ⟨m, hm1, hm2⟩ := r.loc
  have hX : Φ.K.In s.heap := O.X.keeps r.keep
  have hcode : s.heap.CodeRec fd.code fd.qualname := by
    obtain ⟨c, oc, vs, t, q1, q2, q3, q4⟩ := k.code
    exact ⟨c, oc, vs, t, q1, hX _ _ q2, q3, q4⟩
  have hxl : xs.length = ps.length := h.length.trans hlen
  have hbinds : ∀ x ∈ ps.zip xs, fd.scope.names.lookup x.1 = some .local := fun x hx => k.loc _ (List.of_mem_zip hx).1
  have hroom : Φ.A.depth < recursionLimit := by have := O.dep; lia
  refine wpC_call (codeC_callC hroom (hX _ _ hlook) hdata (O.lim.keeps r.keep) hcode k.body (k.bind xs hxl) k.clo hbinds (fun s₁ x => ?_) k.co k.gen k.kind)
  have hcells : (callEnvC fd s.heap.objs.size a).cells = bx.map fun y => (y, s.heap.objs.size + 1) := k.cells _
  obtain ⟨σp, hp⟩ : ∃ σp : List Addr, σp = if pass = true then σ else [] := ⟨_, rfl⟩
  have hσp : ∀ b ∈ σp, b ∈ σ := by
    intro b hb
    cases pass with
    | true => subst hp; exact hb
    | false => subst hp; exact absurd hb (by simp)
  obtain ⟨bxa, hb⟩ : ∃ bxa : List Addr, bxa = bx.map fun _ => s.heap.objs.size + 1 := ⟨_, rfl⟩
  have hbxa : ∀ c ∈ bxa, s.heap.objs.size < c ∧ ∃ o y, s₁.heap.get? c = some o ∧ o.data = .cell y := by
    intro c hc
    rw [hb] at hc
    obtain ⟨y, hy, rfl⟩ := List.mem_map.mp hc
    refine ⟨Nat.lt_succ_self _, ?_⟩
    have hl : (callEnvC fd s.heap.objs.size a).cells.lookup y = some (s.heap.objs.size + 1) := by
      rw [hcells]
      exact bx_lookup k.bx1 hy
    obtain ⟨o, q1, q2⟩ := x.cell y _ hl
    exact ⟨o, _, q1, q2⟩
  obtain ⟨Ψ, hΨ⟩ : ∃ Ψ : Act, Ψ = callee Φ imm s σp (callEnvC fd s.heap.objs.size a) m bxa (ps ++ rest) := ⟨_, rfl⟩
  have hargs := callee_args (bxa := bxa) r hΨ hp hflat h
  have hstk : OkF Ψ := by subst hΨ; exact ⟨rfl, rfl⟩
  have O' : Ok prog Ψ lv := by subst hΨ; exact ok_callee O r hσp k.kind rfl rfl k.glob k.bi k.nod
  have r₁ := callee_rel (pass := pass) k r hm1 hΨ hp hb hσp hxl h.length hargs x.toInCall hbxa
  have hbody := hd Ψ (by subst hΨ; rfl) O' hstk (by subst hΨ; rfl) (by subst hΨ; rfl) (fun hp0 => by
    subst hΨ
    show σp ++ bxa = _
    subst hp hp0
    exact hb)
  have hne1 : d (fBeg pass rest.length bx.length vs st) ≠ .fail := fun e => hne (by rw [e]; rfl)
  have hσ := callee_keeps r hΨ hp
  have henv : Ψ.env = callEnvC fd s.heap.objs.size a := by subst hΨ; rfl
  have hA : Ψ.A = Φ.A.deeper (callEnvC fd s.heap.objs.size a) := by subst hΨ; rfl
  have hw : Ψ.w = Φ.w := by subst hΨ; rfl
  have hb1 := hbody _ _ _ r₁ hne1
  rw [henv, hA, hw] at hb1
  refine wpC_mono hb1 ?_ ?_
  · rintro f s' ⟨fv, st', σ', imm', e1, hp', hi', r', hf⟩
    rw [e1] at hne ⊢
    exact callee_ret (bx := bx) (fun z => by rw [hb, hpb z]; rfl) r hm2 hΨ hp hσp hσ hp' r' (fr_ret hf) hne
  · rintro e s' ⟨e1, he⟩
    rw [e1] at hx ⊢
    have hF : OkF Φ := hx.resolve_right fun q => q rfl
    unfold Eb at he
    rw [henv, hA, hw] at he
    exact wpAny_mono (A := Φ.A.deeper (callEnvC fd s.heap.objs.size a)) he (fun _ s'' h => ⟨rfl, goes_on O hF r hσp hΨ h⟩) fun _ _ x => x.elim
end
end Mine
end
section
/-! text F19 -/
open PySem PySem.W PyProof.Rows
set_option Elab.async false
set_option autoImplicit false
set_option linter.unusedVariables false
namespace Mine
open Sem (wp)

section
variable {M : Model} {A : Around} {E : Value → Shared → Prop} {s : Shared} {env : Env}
theorem wpC_comp {e : Expr} {scope : Scope} {pos : Pos} {newAcc first : Sem Value} {g : Comprehension} {gs : List Comprehension} {cl : List (Str × Addr)} {Q : Value → Shared → Prop}
    (hcl : clausesOf e = g :: gs) (hs : ∀ x, foldedSetIterable g.iter env x = pure x) (hclos : closureFor scope env = pure cl)
    (hkind : scope.kind = .function) (hnames : ∀ x ∈ scope.names, x.2 = .local → scope.names.lookup x.1 = some .local)
    (h : wpC M A first (fun x s₁ => wpC M A (pyIter x) (fun it s₂ => wpC M A newAcc (fun acc s₃ =>
      wpC M A (newFunctionEnv scope env.globals cl [] env.qual none .none (some env)) (fun cenv s₄ =>
        codeC M A (.compStart e 0 it acc { cenv with scope := relabel scope env }) (fun r s' => match r with
          | .ok _ => ∃ m, s'.heap.Ns cenv.locals m ∧ ∀ h', Heap.SameBut cenv.locals s'.heap h' → Q acc { s' with heap := h' }
          | .error _ => False) s₄) E s₃) E s₂) E s₁) E s) :
    wpC M A (comprehension e scope env pos newAcc false first none) Q E s := by
  unfold comprehension
  rw [hclos, hcl]
  refine wpC_bind (wpC_mono h (fun x s₁ h₁ => wpC_bind (wpC_standAt (wpC_bind (wpC_of (wpAny_of_eq (hs x) ?_)))) ) fun _ _ h' => h')
  refine wpC_bind (wpC_holding (wpC_mono h₁ (fun it s₂ h₂ => ?_) fun _ _ h' => h'))
  show wpC M A (newAcc >>= _) Q E s₂
  refine wpC_bind (wpC_mono h₂ (fun acc s₃ h₃ => wpC_bind (wpC_pure (wpC_bind (wpC_mono h₃ (fun cenv s₄ h₄ => ?_) fun _ _ h' => h')))) fun _ _ h' => h')
  dsimp only
  have hv : ∀ x ∈ (scope.names.filter fun x => (x.2 == .local || x.2 == .cell) && x.1 != (".0" : Str)).reverse, x.2 = .local →
      Env.kindOf { cenv with scope := relabel scope env } x.1 = some .local := fun x hx hl => lookup_relabel_local (hnames x (List.mem_filter.mp (List.mem_reverse.mp hx)).1 hl)
  refine wpC_holding (wpC_bind (wpC_attempt (wpC_holding (wpC_run (codeC_mono h₄ fun r s' hr => ?_)))))
  cases r with
  | ok f =>
    obtain ⟨m, hn, hr⟩ := hr
    exact wpC_bind (wpC_holding (wpC_of (wpAny_comp_letGo (cenv := { cenv with scope := relabel scope env }) hkind _ s' m hv hn fun h' m' _ hs' => wpC_pure (hr h' hs'))))
  | error x => exact hr.elim
end

section
variable {prog : Program} {w : World} {A : Around} {R : Result → Shared → Prop} {s : Shared}
theorem codeC_compStart_list {elt target iter ifs rest scope pos it acc env} (hR : ∀ e s, R (.error e) s ↔ False)
    (h0 : codeC (model prog w) A (.compLoop (.ListComp elt (⟨target, iter, ifs, 0⟩ :: rest) scope pos) 0 it acc env) R s)
    (h : wpAny (model prog w) A (pyIter it) (fun it' s' => codeC (model prog w) A (.compLoop (.ListComp elt (⟨target, iter, ifs, 0⟩ :: rest) scope pos) 0 it' acc env) R s') (fun _ _ => False) s) :
    codeC (model prog w) A (.compStart (.ListComp elt (⟨target, iter, ifs, 0⟩ :: rest) scope pos) 0 it acc env) R s := by
  refine codeC_of_tree rfl ?_
  show wpC _ _ ((compStart (.ListComp elt (⟨target, iter, ifs, 0⟩ :: rest) scope pos) 0 it acc env).onRaise (fun x => do noteFrame x env; standAt theWindowsPlace)) _ _ s
  refine wpC_onRaise (wpC_mono (E := fun _ _ => False) ?_ (fun _ _ q => q) fun _ _ x => x.elim)
  refine wpC_of ?_
  unfold compStart
  show wpAny _ _ (ask >>= _) _ _ s
  refine wpAny_bind (wpAny_askSetting (wpAny_ite ?_))
  split
  · first
      | exact wpAny_bind (wpAny_pure (wpAny_pure (And.intro rfl h0)))
      | exact wpAny_pure (And.intro rfl h0)
  · first
      | exact wpAny_bind (wpAny_rule (wpAny_bind (wpAny_standAt (wpAny_bind (wpAny_mono h (fun it' s' h' => wpAny_pure (And.intro rfl h')) fun _ _ x => x)))))
      | (refine wpAny_bind (wpAny_rule ?_); show wpAny _ _ (standAt iter.pos >>= _) _ _ s; exact wpAny_bind (wpAny_standAt (wpAny_bind (wpAny_mono h (fun it' s' h' => wpAny_pure (And.intro rfl h')) fun _ _ x => x))))
theorem codeC_compTurn {elt target iter : Expr} {ifs : List Expr} {scope : Scope} {pos : Pos} {it acc : Value} {env : Env}
    (h : wpC (model prog w) A (pyNext it) (fun r s₁ => match r with
      | none => R (.ok .next) s₁
      | some v => wpC (model prog w) A (letOwnedTupleGo target it v) (fun _ s₁ => wpC (model prog w) A (assign target env v) (fun _ s₂ =>
          wpC (model prog w) A (forIn ifs true fun c r => if r = true then do let ok ← isTrue c env (eval c env); pure (ForInStep.yield ok) else pure (ForInStep.yield r)) (fun ok s₃ =>
            if ok = true then wpC (model prog w) A (eval elt env) (fun x s₄ =>
              wpC (model prog w) A (call (.builtin "list.append") [acc, x]) (fun _ s₅ => codeC (model prog w) A (.compLoop (.ListComp elt [⟨target, iter, ifs, 0⟩] scope pos) 0 it acc env) R s₅) (fun _ _ => False) s₄) (fun _ _ => False) s₃
            else codeC (model prog w) A (.compLoop (.ListComp elt [⟨target, iter, ifs, 0⟩] scope pos) 0 it acc env) R s₃) (fun _ _ => False) s₂) (fun _ _ => False) s₁) (fun _ _ => False) s₁) (fun _ _ => False) s) :
    codeC (model prog w) A (.compLoop (.ListComp elt [⟨target, iter, ifs, 0⟩] scope pos) 0 it acc env) R s := by
  refine codeC_of_tree rfl ?_
  show wpC _ A ((compTurn (.ListComp elt [⟨target, iter, ifs, 0⟩] scope pos) 0 it acc env).onRaise (fun x => do noteFrame x env; theTreesLotGoes x)) _ _ s
  refine wpC_onRaise (wpC_mono (E := fun _ _ => False) ?_ (fun _ _ q => q) fun _ _ x => x.elim)
  rw [compTurn_list]
  refine wpC_bind (wpC_standAt (wpC_bind (wpC_mono h (fun r s₁ h₁ => ?_) fun _ _ h' => h')))
  cases r with
  | none => exact wpC_pure h₁
  | some v =>
    refine wpC_bind (wpC_mono h₁ (fun _ s₁ h₁ => ?_) fun _ _ h' => h')
    refine wpC_bind (wpC_mono h₁ (fun _ s₂ h₂ => wpC_bind (wpC_mono h₂ (fun ok s₃ h₃ => ?_) fun _ _ h' => h')) fun _ _ h' => h')
    cases ok with
    | false => exact wpC_pure ⟨rfl, h₃⟩
    | true =>
      exact wpC_bind (wpC_bind (wpC_mono h₃ (fun x s₄ h₄ => wpC_bind (wpC_mono h₄ (fun _ s₅ h₅ => wpC_pure (wpC_pure ⟨rfl, h₅⟩)) fun _ _ h' => h')) fun _ _ h' => h'))
end
end Mine
end
section
/-! text F20 -/
open PySem PySem.W PyProof.Rows
set_option Elab.async false
set_option autoImplicit false
set_option linter.unusedVariables false
namespace Mine
open Sem (wp)

noncomputable def R.noExc {α : Type} : R α → R α
  | .exc => .fail
  | r => r
theorem noExc_ok {α : Type} {r : R α} (h : r.noExc ≠ .fail) : r ≠ .fail ∧ r ≠ .exc := by
  cases r with
  | ok a st => exact ⟨nofun, nofun⟩
  | exc => exact absurd rfl h
  | fail => exact absurd rfl h
theorem nx_ok {α : Type} (a : α) (st : St) : (R.ok a st).noExc = .ok a st := rfl
theorem bd_ok {α β : Type} (a : α) (st : St) (f : α → St → R β) : (R.ok a st).bind f = f a st := rfl
noncomputable def mCompI (src : Src) (asg : V → Mo Unit) (t : Mo Bool) (e : Mo V) (k : Nat) : Nat → Nat → Mo Unit
  | 0, _ => fun _ => .fail
  | n + 1, i => fun st => match srcAt src i st with
    | none => .fail
    | some none => .ok () st
    | some (some v) => (asg v st).noExc.bind fun _ st => (t st).noExc.bind fun b st => if b = true then (e st).noExc.bind fun v st => (fAppend (.ref k) [v] st).noExc.bind fun _ st => mCompI src asg t e k n (i + 1) st
      else mCompI src asg t e k n (i + 1) st
/-- a list comprehension -/
noncomputable def mComp (d : Mo V) (nl : Nat) (asg : V → Mo Unit) (t : Mo Bool) (e : Mo V) : Mo V := fun st => (d st).bind fun v st => (srcOf v st).bind fun src st =>
  (mCompI src asg t e st.cells.length (srcFuel src st) 0 ⟨List.replicate nl none, st.cells ++ [.list []]⟩).bind fun _ st' =>
    if st'.cells.length = st.cells.length + 1 ∧ (st'.cells.take st.cells.length).all Cell.flat = true then match st'.cells[st.cells.length]? with
      | some (.list vs) => if flats vs = true then .ok (.lst vs) ⟨st.loc, st'.cells.take st.cells.length⟩ else .fail
      | _ => .fail
    else .fail
/-- what a comprehension stands upon -/
noncomputable def compAct (Φ : Act) (env' : Env) (C : Addr) (m : Str → Option Value) (sig : List Addr) (names : List Str) : Act :=
  { Φ with env := env', L := C, outs := (Φ.L, m) :: Φ.outs, sig0 := sig, names := names }
noncomputable def STif (prog : Program) (Φ : Act) (ifs : List Expr) (t : Mo Bool) : Prop :=
  ∀ σ imm st s, Rel prog Φ σ imm st s → Snd prog Φ (fun _ _ b c => b = c) (forIn ifs true fun c r => if r = true then do let ok ← isTrue c Φ.env (eval c Φ.env); pure (ForInStep.yield ok) else pure (ForInStep.yield r)) (t st) σ imm s

section
variable {prog : Program} {Φ : Act} {lv : Nat} {σ : List Addr} {imm : List (Addr × Obj)} {st : St} {s : Shared}
theorem STif_nil : STif prog Φ [] (fun st => .ok true st) := fun σ imm st s r => Snd.pure r rfl
theorem STif_one {c : Expr} {t : Mo Bool} (h : ST prog Φ c t) : STif prog Φ [c] t := fun σ imm st s r => by
  simp only [List.forIn_cons, List.forIn_nil, if_true]
  intro hne
  refine wpC_bind (wpC_bind (wpC_mono (h _ _ _ _ r hne) ?_ fun _ _ x => x))
  rintro b s' ⟨b', st', σ', imm', e1, h1, h2, h3, rfl⟩
  exact wpC_pure (wpC_pure ⟨b', st', σ', imm', e1, h1, h2, h3, rfl⟩)
theorem comp_loop (O : Ok prog Φ lv) {elt target iter : Expr} {ifs : List Expr} {scope : Scope} {pos : Pos} {asg : V → Mo Unit} {t : Mo Bool} {de : Mo V} (ha : SA prog Φ target asg) (ht : STif prog Φ ifs t) (he : SE prog Φ elt de) (src : Src) (I D : Addr) (k : Nat) (hD : Φ.sig0[k]? = some D) :
    ∀ (n i : Nat) (σ : List Addr) (imm : List (Addr × Obj)) (st : St) (s : Shared) (o : Obj), Rel prog Φ σ imm st s → (I, o) ∈ imm → ItO (kno imm Φ.Hk) σ src i o → mCompI src asg t de k n i st ≠ .fail →
    codeC (model prog Φ.w) Φ.A (.compLoop (.ListComp elt [⟨target, iter, ifs, 0⟩] scope pos) 0 (.ref I) (.ref D) Φ.env) (fun r s' => match r with
      | .ok _ => ∃ st' σ' imm', mCompI src asg t de k n i st = .ok () st' ∧ σ <+: σ' ∧ ImmLe (dropI imm I) imm' ∧ Rel prog Φ σ' imm' st' s'
      | .error _ => False) s
  | 0, _, _, _, _, _, _, _, _, _, hne => absurd rfl hne
  | n + 1, i, σ, imm, st, s, o, r, hI, ho, hne => by
    have hd : ∀ w, srcAt src i st = w → mCompI src asg t de k (n + 1) i st = (match w with
      | none => .fail
      | some none => .ok () st
      | some (some v) => (asg v st).noExc.bind fun _ st => (t st).noExc.bind fun b st => if b = true then (de st).noExc.bind fun v st => (fAppend (.ref k) [v] st).noExc.bind fun _ st => mCompI src asg t de k n (i + 1) st
      else mCompI src asg t de k n (i + 1) st) := fun w hw => by subst hw; rfl
    cases hw : srcAt src i st with
    | none => exact absurd (hd _ hw) hne
    | some w =>
      have hd' := hd _ hw
      refine codeC_compTurn (wpC_mono (wpC_of (snd_next O r hI ho hw)) ?_ fun _ _ x => x.elim)
      intro res s1 h1
      cases w with
      | none =>
        obtain ⟨rfl, r1⟩ := h1
        exact ⟨st, σ, _, hd', List.prefix_refl _, .refl _, r1⟩
      | some v =>
        obtain ⟨x, o', rfl, r1, ho1, hv1⟩ := h1
        rw [hd'] at hne
        simp only at hne hd'
        have ha1 : (asg v st).noExc ≠ .fail := fun e => hne (by rw [e]; rfl)
        obtain ⟨ha2, ha3⟩ := noExc_ok ha1
        have hI1 : (I, o') ∈ dropI imm I ++ [(I, o')] := List.mem_append_right _ (List.mem_singleton.mpr rfl)
        refine wpC_of (owned_go (r1.immK _ hI1) ho1 ?_)
        refine wpC_mono (ha _ _ _ _ _ _ r1 hv1 ha2) ?_ fun _ _ q => absurd q.1 ha3
        rintro _ s2 ⟨u, st2, σ2, imm2, e2, hp2, hi2, r2, _⟩
        rw [e2] at hne hd'
        simp only [nx_ok, bd_ok] at hne hd'
        have ht1 : (t st2).noExc ≠ .fail := fun e => hne (by rw [e]; rfl)
        obtain ⟨ht2, ht3⟩ := noExc_ok ht1
        refine wpC_mono (ht _ _ _ _ r2 ht2) ?_ fun _ _ q => absurd q.1 ht3
        rintro b' s3 ⟨b, st3, σ3, imm3, e3, hp3, hi3, r3, rfl⟩
        rw [e3] at hne hd'
        simp only [nx_ok, bd_ok] at hne hd'
        cases b with
        | false =>
          simp only [Bool.false_eq_true, if_false] at hne hd' ⊢
          have hi13 : ImmLe (dropI imm I) (dropI imm3 I) := by
            have := (hi2.trans hi3).drop I
            rwa [dropI_app] at this
          refine codeC_mono (comp_loop O ha ht he src I D k hD n (i + 1) σ3 imm3 st3 s3 o' r3 (hi3 _ (hi2 _ hI1)) (ho1.mono ((kno.leI (hi2.trans hi3))) (hp2.trans hp3)) hne) ?_
          rintro (e | f) s4 h4
          · exact h4
          · obtain ⟨st4, σ4, imm4, q1, q2, q3, q4⟩ := h4
            exact ⟨st4, σ4, imm4, hd'.trans q1, hp2.trans (hp3.trans q2), hi13.trans q3, q4⟩
        | true =>
          simp only [if_true] at hne hd' ⊢
          have he1 : (de st3).noExc ≠ .fail := fun e => hne (by rw [e]; rfl)
          obtain ⟨he2, he3⟩ := noExc_ok he1
          refine wpC_mono (he _ _ _ _ r3 he2) ?_ fun _ _ q => absurd q.1 he3
          rintro y s4 ⟨w, st4, σ4, imm4, e4, hp4, hi4, r4, hw4⟩
          rw [e4] at hne hd'
          simp only [nx_ok, bd_ok] at hne hd'
          have hap1 : (fAppend (.ref k) [w] st4).noExc ≠ .fail := fun e => hne (by rw [e]; rfl)
          obtain ⟨hap2, hap3⟩ := noExc_ok hap1
          have hDv : VR (kno imm4 Φ.Hk) σ4 (.ref k) (.ref D) := by
            simp only [VR]
            exact ⟨D, pre_get r4.pre hD, rfl⟩
          refine wpC_mono (snd_append O r4 hDv (VRs.one hw4) hap2) ?_ fun _ _ q => absurd q.1 hap3
          rintro _ s5 ⟨u5, st5, σ5, imm5, e5, hp5, hi5, r5, _⟩
          rw [e5] at hne hd'
          simp only [nx_ok, bd_ok] at hne hd'
          have hi15 : ImmLe (dropI imm I) (dropI imm5 I) := by
            have := (hi2.trans (hi3.trans (hi4.trans hi5))).drop I
            rwa [dropI_app] at this
          refine codeC_mono (comp_loop O ha ht he src I D k hD n (i + 1) σ5 imm5 st5 s5 o' r5 (hi5 _ (hi4 _ (hi3 _ (hi2 _ hI1)))) (ho1.mono ((kno.leI (hi2.trans (hi3.trans (hi4.trans hi5))))) (hp2.trans (hp3.trans (hp4.trans hp5)))) hne) ?_
          rintro (e | f) s6 h6
          · exact h6
          · obtain ⟨st6, σ6, imm6, q1, q2, q3, q4⟩ := h6
            exact ⟨st6, σ6, imm6, hd'.trans q1, hp2.trans (hp3.trans (hp4.trans (hp5.trans q2))), hi15.trans q3, q4⟩
end
end Mine
end
section
/-! text F21 -/
open PySem PySem.W PyProof.Rows
set_option Elab.async false
set_option autoImplicit false
set_option linter.unusedVariables false
namespace Mine
open Sem (wp)

section
variable {prog : Program} {Φ : Act} {lv : Nat} {σ : List Addr} {imm : List (Addr × Obj)} {st : St} {s : Shared}
theorem ok_comp (O : Ok prog Φ lv) {env' : Env} {C : Addr} {m : Str → Option Value} {sig : List Addr} {names : List Str} (h1 : env'.scope.kind = .function) (h2 : env'.locals = C) (h3 : env'.globals = Φ.env.globals) (h4 : env'.builtins = Φ.env.builtins) (hn : names.Nodup) :
    Ok prog (compAct Φ env' C m sig names) lv where
  hh := O.hh
  fr := O.fr
  lk := fun e he => by
    obtain ⟨q1, a, q2, q3⟩ := O.lk e he
    refine ⟨q1, a, q2, .inr ?_⟩
    rcases q3 with rfl | ⟨m', q3⟩
    · exact ⟨m, List.mem_cons_self⟩
    · exact ⟨m', List.mem_cons_of_mem _ q3⟩
  dep := O.dep
  un := O.un
  kind := h1
  locals := h2
  globals := h3.trans O.globals
  builtins := h4.trans O.builtins
  nod := hn
  X := O.X
  g := O.g
  b := O.b
  lim := O.lim
  bi := O.bi
theorem rel_comp {s₂ : Shared} {env' : Env} {C : Addr} {m m' : Str → Option Value} {names : List Str} {loc' : List (Option V)} (r : Rel prog Φ σ imm st s) (hm : s.heap.Ns Φ.L m) (hC : s.heap.objs.size ≤ C)
    (hk : ∀ b o, s.heap.get? b = some o → s₂.heap.get? b = some o) (hg : s₂.gens = s.gens) (hd : s₂.drawn = s.drawn) (ho : s₂.os = s.os) (hn : s₂.heap.Ns C m')
    (hloc : ∀ (i : Nat) (v : V), loc'[i]? ≠ some (some v)) : Rel prog (compAct Φ env' C m σ names) σ imm ⟨loc', st.cells⟩ s₂ := by
  obtain ⟨l1, l2, l3⟩ := r.lt_of
  refine ⟨hg.trans r.gens, hd.trans r.drawn, ho.trans r.os, fun b o e => hk _ _ (r.keep b o e), ⟨m', hn, fun i x v _ q => absurd q (hloc i v)⟩, r.len, fun k a c e1 e2 => let ⟨o, q1, q2⟩ := r.cells k a c e1 e2; ⟨o, hk _ _ q1, q2⟩,
    fun p hp => hk _ _ (r.immK p hp), ?_, Nat.le_trans (Nat.le_trans r.newL (Nat.le_of_lt l1)) hC, ?_, ?_, ?_, r.nod, List.prefix_refl _, r.hk, r.noSys, r.low⟩
  · intro p hp
    rcases List.mem_cons.mp hp with rfl | hp
    · exact hm.keeps hk
    · exact (r.outs p hp).keeps hk
  · intro a ha
    obtain ⟨x1, x2, x3, x4⟩ := r.newC a ha
    refine ⟨x1, Nat.ne_of_lt (Nat.lt_of_lt_of_le (l3 a ha) hC), x3, fun p hp => ?_⟩
    rcases List.mem_cons.mp hp with rfl | hp
    · exact Ne.symm x2
    · exact x4 p hp
  · intro p hp
    obtain ⟨n1, n2, n3⟩ := r.newI p hp
    refine ⟨n1, Nat.ne_of_lt (Nat.lt_of_lt_of_le (Heap.lt_size (r.immK p hp)) hC), fun q hq => ?_⟩
    rcases List.mem_cons.mp hq with rfl | hq
    · exact n2
    · exact n3 q hq
  · intro p hp
    rcases List.mem_cons.mp hp with rfl | hp
    · exact ⟨none_of_size r.newL, Nat.ne_of_lt (Nat.lt_of_lt_of_le l1 hC)⟩
    · exact ⟨(r.newO p hp).1, Nat.ne_of_lt (Nat.lt_of_lt_of_le (l2 p hp) hC)⟩
/-- behind a comprehension -/
theorem rel_uncomp {s₃ : Shared} {h' : Heap} {tk : Nat} {env' : Env} {C D : Addr} {m : Str → Option Value} {names : List Str} {imm' : List (Addr × Obj)} {st' : St} {cells'' : List Cell} {oD : Obj} (r : Rel prog Φ σ imm st s) (hm : LocOk Φ σ imm st m)
    (r' : Rel prog (compAct Φ env' C m (σ ++ [D]) names) (σ ++ [D]) imm' st' s₃) (hi : KnLe (kno imm Φ.Hk) (kno imm' Φ.Hk)) (hs : Heap.SameBut C s₃.heap h') (hD : s₃.heap.get? D = some oD)
    (hlen : σ.length = cells''.length) (hcs : ∀ (k : Nat) (c : Cell), k < σ.length → cells''[k]? = some c → st'.cells[k]? = some c ∧ c.flat = true) : Rel prog Φ σ (imm' ++ [(D, oD)]) ⟨st.loc, cells''⟩ { s₃ with heap := h', toks := tk } := by
  have other : ∀ {b : Addr} {o : Obj}, b ≠ C → s₃.heap.get? b = some o → h'.get? b = some o := fun hb e => (hs.2 _ hb).trans e
  have hDm : D ∈ σ ++ [D] := List.mem_append_right _ (List.mem_singleton.mpr rfl)
  obtain ⟨d1, d2, d3, d4⟩ := r'.newC D hDm
  have hnd := r'.nod
  rw [List.nodup_append] at hnd
  have hle : KnLe (kno imm Φ.Hk) (kno (imm' ++ [(D, oD)]) Φ.Hk) := hi.trans (kno.le fun p hp => List.mem_append_left _ hp)
  have hC0 : Φ.H0.get? C = none := none_of_size r'.newL
  refine ⟨r'.gens, r'.drawn, r'.os, fun b o h => other (ne_of_get h hC0) (r'.keep b o h), ⟨m, ?_, fun i x v q1 q2 => let ⟨val, q3, q4⟩ := hm i x v q1 q2; ⟨val, q3, q4.mono hle (List.prefix_refl _)⟩⟩, hlen, ?_, ?_, ?_, r.newL, ?_, ?_, r.newO, r.nod, r.pre, r.hk, r.noSys, r.low⟩
  · exact (r'.outs _ List.mem_cons_self).sameBut hs (r'.newO _ List.mem_cons_self).2
  · intro k a c e1 e2
    have hk : k < σ.length := (List.getElem?_eq_some_iff.mp e1).1
    obtain ⟨q1, q2⟩ := hcs k c hk e2
    have e1' : (σ ++ [D])[k]? = some a := by rw [List.getElem?_append_left hk]; exact e1
    obtain ⟨o, q3, q4⟩ := r'.cells k a c e1' q1
    exact ⟨o, other (r'.newC a (List.mem_of_getElem? e1')).2.1 q3, CellO.flat q2 (q4.mono (kno.le fun p hp => List.mem_append_left _ hp) (List.prefix_refl _))⟩
  · intro p hp
    rcases List.mem_append.mp hp with hp | hp
    · exact other (r'.newI p hp).2.1 (r'.immK p hp)
    · rw [List.mem_singleton.mp hp]; exact other d2 hD
  · exact fun p hp => (r'.outs p (List.mem_cons_of_mem _ hp)).sameBut hs (r'.newO p (List.mem_cons_of_mem _ hp)).2
  · intro a ha
    obtain ⟨x1, x2, x3, x4⟩ := r.newC a ha
    have ha' : a ∈ σ ++ [D] := List.mem_append_left _ ha
    refine ⟨x1, x2, fun p hp => ?_, x4⟩
    rcases List.mem_append.mp hp with hp | hp
    · exact (r'.newC a ha').2.2.1 p hp
    · rw [List.mem_singleton.mp hp]
      exact Ne.symm (hnd.2.2 a ha D (List.mem_singleton.mpr rfl))
  · intro p hp
    rcases List.mem_append.mp hp with hp | hp
    · obtain ⟨n1, n2, n3⟩ := r'.newI p hp
      exact ⟨n1, n3 _ List.mem_cons_self, fun q hq => n3 q (List.mem_cons_of_mem _ hq)⟩
    · rw [List.mem_singleton.mp hp]
      exact ⟨d1, Ne.symm (d4 _ List.mem_cons_self), fun q hq => Ne.symm (d4 q (List.mem_cons_of_mem _ hq))⟩
set_option maxHeartbeats 1000000 in
theorem SE_comp (O : Ok prog Φ lv) {elt target iter : Expr} {ifs : List Expr} {scope : Scope} {pos : Pos} {cl : List (Str × Addr)} {names : List Str} {d : Mo V} {nl : Nat} {asg : V → Mo Unit} {t : Mo Bool} {de : Mo V}
    (hd : SE prog Φ iter d) (hs : ∀ x, foldedSetIterable iter Φ.env x = pure x) (hclos : closureFor scope Φ.env = pure cl) (hcell : ∀ y ∈ scope.names, y.2 ≠ .cell) (hkind : scope.kind = .function)
    (hnames : ∀ x ∈ scope.names, x.2 = .local → scope.names.lookup x.1 = some .local) (hnod : names.Nodup)
    (hin : ∀ (C : Addr) (m : Str → Option Value) (sig : List Addr), Φ.sig0 <+: sig → Ok prog (compAct Φ (compEnvC scope cl C Φ.env) C m sig names) lv →
      SA prog (compAct Φ (compEnvC scope cl C Φ.env) C m sig names) target asg ∧ STif prog (compAct Φ (compEnvC scope cl C Φ.env) C m sig names) ifs t ∧ SE prog (compAct Φ (compEnvC scope cl C Φ.env) C m sig names) elt de) :
    SE prog Φ (.ListComp elt [⟨target, iter, ifs, 0⟩] scope pos) (mComp d nl asg t de) := fun σ imm st s r => by
  rw [eval_ListComp]
  intro hne
  have hd1 : d st ≠ .fail := fun e => hne (by unfold mComp; rw [e]; rfl)
  refine wpC_comp (g := ⟨target, iter, ifs, 0⟩) (gs := []) rfl hs hclos hkind hnames ?_
  refine wpC_mono (hd _ _ _ _ r hd1) ?_ (fun e s1 q => ⟨by unfold mComp; rw [q.1]; rfl, q.2⟩)
  rintro x s1 ⟨v, st1, σ1, imm1, e1, hp1, hi1, r1, hv⟩
  have hd2 : ∀ rr, rr = mComp d nl asg t de st → rr = ((srcOf v st1).bind fun src st =>
      (mCompI src asg t de st.cells.length (srcFuel src st) 0 ⟨List.replicate nl none, st.cells ++ [.list []]⟩).bind fun _ st' =>
        if st'.cells.length = st.cells.length + 1 ∧ (st'.cells.take st.cells.length).all Cell.flat = true then match st'.cells[st.cells.length]? with
          | some (.list vs) => if flats vs = true then .ok (.lst vs) ⟨st.loc, st'.cells.take st.cells.length⟩ else .fail
          | _ => .fail
        else .fail) := fun rr h => by rw [h]; unfold mComp; rw [e1]; rfl
  have hne2 := hd2 _ rfl
  rw [hne2] at hne ⊢
  have hsrc : srcOf v st1 ≠ .fail := fun e => hne (by rw [e]; rfl)
  refine wpC_of (wpAny_mono (snd_iter r1 hv hsrc) ?_ fun _ _ x => x.elim)
  rintro it s2 ⟨src, I, o, imm2, e2, rfl, hi2, hn2, hI, hO, r2⟩
  rw [e2] at hne ⊢
  simp only [bd_ok] at hne ⊢
  -- the list
  show wpC _ _ (newObj (.type "list") (.seq ([] : List Value).toArray)) _ _ _
  refine wpC_newObj_type (d := .seq ([] : List Value).toArray) ?_ (Nat.zero_le _)
  have hpD : σ1 <+: σ1 ++ [s2.heap.objs.size] := List.prefix_append _ _
  have r3 := r2.pushCell (o := { cls := .type "list", data := .seq ([] : List Value).toArray }) (c := .list []) rfl s2.toks ⟨rfl, rfl, 0, [], rfl, by simp only [VRs]⟩
  obtain ⟨m, hm0, hm2⟩ := r2.loc
  have hm1 : (s2.heap.push { cls := .type "list", data := .seq ([] : List Value).toArray }).Ns Φ.L m := hm0.push _
  -- the place of its variables
  refine wpC_of (wpAny_newFunctionEnv hcell (by intro y hy; simp at hy) (fun h₁ hns₁ hsb₁ => ?_) hkind)
  have hkeep : ∀ b o, (s2.heap.push { cls := .type "list", data := .seq ([] : List Value).toArray }).get? b = some o → h₁.get? b = some o := fun b o e =>
    hsb₁.extBut b o (Nat.ne_of_lt (Heap.lt_size e)) (Heap.get?_push_of_some _ e)
  have r4 : Rel prog (compAct Φ (compEnvC scope cl (s2.heap.push { cls := .type "list", data := .seq ([] : List Value).toArray }).objs.size Φ.env) (s2.heap.push { cls := .type "list", data := .seq ([] : List Value).toArray }).objs.size m (σ1 ++ [s2.heap.objs.size]) names)
      (σ1 ++ [s2.heap.objs.size]) imm2 ⟨List.replicate nl none, st1.cells ++ [.list []]⟩ { s2 with heap := h₁, toks := s2.toks + ([] : List (Str × Value)).length } :=
    rel_comp r3 hm1 (Nat.le_refl _) hkeep rfl rfl rfl hns₁ (fun i v q => by
      rw [List.getElem?_replicate] at q
      split at q <;> cases q)
  have O4 := ok_comp (C := (s2.heap.push { cls := .type "list", data := .seq ([] : List Value).toArray }).objs.size) (m := m) (sig := σ1 ++ [s2.heap.objs.size]) (names := names) (env' := compEnvC scope cl (s2.heap.push { cls := .type "list", data := .seq ([] : List Value).toArray }).objs.size Φ.env) O (by simp [compEnvC, relabel, hkind]) rfl rfl rfl hnod
  obtain ⟨ha, ht, he⟩ := hin _ m _ (r3.pre) O4
  have hDk : (σ1 ++ [s2.heap.objs.size])[st1.cells.length]? = some s2.heap.objs.size := by rw [← r1.len, List.getElem?_concat_length]
  have hO4 : ItO (kno imm2 Φ.Hk) (σ1 ++ [s2.heap.objs.size]) src 0 o := hO.mono (KnLe.refl _) hpD
  have hmc : mCompI src asg t de st1.cells.length (srcFuel src st1) 0 ⟨List.replicate nl none, st1.cells ++ [.list []]⟩ ≠ .fail := fun e => hne (by rw [e]; rfl)
  have loop := comp_loop O4 (pos := pos) (scope := scope) (iter := iter) ha ht he src I s2.heap.objs.size st1.cells.length hDk (srcFuel src st1) 0 _ _ _ _ o r4 hI hO4 hmc
  have code := codeC_mono loop (R' := fun r s' => match r with
          | .ok _ => ∃ m', s'.heap.Ns (s2.heap.push { cls := .type "list", data := .seq ([] : List Value).toArray }).objs.size m' ∧ ∀ h', Heap.SameBut (s2.heap.push { cls := .type "list", data := .seq ([] : List Value).toArray }).objs.size s'.heap h' →
            ∃ b st' σ' imm', ((mCompI src asg t de st1.cells.length (srcFuel src st1) 0 ⟨List.replicate nl none, st1.cells ++ [.list []]⟩).bind fun _ st' =>
              if st'.cells.length = st1.cells.length + 1 ∧ (st'.cells.take st1.cells.length).all Cell.flat = true then match st'.cells[st1.cells.length]? with
                | some (.list vs) => if flats vs = true then R.ok (V.lst vs) ⟨st1.loc, st'.cells.take st1.cells.length⟩ else .fail
                | _ => .fail
              else .fail) = .ok b st' ∧ σ <+: σ' ∧ ImmLe imm imm' ∧ Rel prog Φ σ' imm' st' { s' with heap := h' } ∧ VR (kno imm' Φ.Hk) σ' b (.ref s2.heap.objs.size)
          | .error _ => False) (fun rr s5 h5 => by
    cases rr with
    | error e => exact h5
    | ok f =>
      obtain ⟨st5, σ5, imm5, e5, hp5, hi5, r5⟩ := h5
      rw [e5] at hne ⊢
      simp only [bd_ok] at hne ⊢
      have hc := ite_ne hne
      rw [if_pos hc] at hne ⊢
      obtain ⟨hlen5, hfl5⟩ := hc
      have hσ5 : σ5 = σ1 ++ [s2.heap.objs.size] := by
        obtain ⟨tl, rfl⟩ := hp5
        have h6 := r5.len
        rw [hlen5, ← r1.len] at h6
        simp at h6
        rw [h6]; simp
      subst hσ5
      obtain ⟨m5, hm5, _⟩ := r5.loc
      refine ⟨m5, hm5, fun h' hsb => ?_⟩
      split at hne
      · rename_i vs hcs
        have hfv := ite_ne hne
        rw [if_pos hfv]
        obtain ⟨oD, q1, q2, q3, n5, vals, q4, q5⟩ := r5.cells st1.cells.length _ _ hDk hcs
        have himm : ImmLe imm1 imm5 := fun p hp => hi5 p (mem_dropI (hi2 p hp) (hn2 p hp))
        have r6 := rel_uncomp (tk := s5.toks) (s := s2) (σ := σ1) (cells'' := st5.cells.take st1.cells.length) (oD := oD) r2 hm2 r5 ((r2.dropLe hI hO.notSolid).trans (kno.le hi5)) hsb q1 (by rw [List.length_take, hlen5, ← r1.len]; lia) (fun k c hk hc => by
          have hk' : k < st1.cells.length := r1.len ▸ hk
          rw [List.getElem?_take_of_lt hk'] at hc
          refine ⟨hc, List.all_eq_true.mp hfl5 c (List.mem_of_getElem? (i := k) ?_)⟩
          rw [List.getElem?_take_of_lt hk']; exact hc)
        refine ⟨_, _, σ1, _, rfl, hp1, fun p hp => List.mem_append_left _ (himm p (hi1 p hp)), r6, ?_⟩
        simp only [VR]
        exact ⟨_, oD, n5, vals, rfl, .inl (List.mem_append_right _ (List.mem_singleton.mpr rfl)), q2, q4, (VRs.flat hfv q5).mono (kno.le fun p hp => List.mem_append_left _ hp) (List.prefix_refl _)⟩
      · exact absurd rfl hne)
  have self : wpAny (model prog Φ.w) Φ.A (pyIter (.ref I)) (fun it' s' => it' = .ref I ∧ s' = { s2 with heap := h₁, toks := s2.toks + ([] : List (Str × Value)).length }) (fun _ _ => False) { s2 with heap := h₁, toks := s2.toks + ([] : List (Str × Value)).length } := by
    have hget := r4.immK _ hI
    cases src with
    | rgn a c n =>
      simp only [ItO] at hO4
      subst hO4
      exact wpAny_pyIter_rangeiter hget ⟨rfl, rfl⟩
    | list v =>
      obtain ⟨hc, ad, hdt, hvv⟩ := hO4
      exact wpAny_pyIter_listiter ⟨o, hget, hc, hdt⟩ ⟨rfl, rfl⟩
  refine codeC_compStart_list (fun _ _ => Iff.rfl) code (wpAny_mono self ?_ fun _ _ x => x)
  rintro it' s' ⟨rfl, rfl⟩
  exact code
end
end Mine
end
section
/-! text F22 -/
open PySem PySem.W PyProof.Rows
set_option Elab.async false
set_option autoImplicit false
set_option linter.unusedVariables false
set_option maxRecDepth 100000
namespace Mine
open Sem (wp)

noncomputable def mCall (F : List V → Mo V) (d : Mo (List V)) : Mo V := fun st => (d st).bind fun vs st => F vs st
noncomputable def mMeth (F : V → List V → Mo V) (P : V → St → Bool) (o : Mo V) (d : Mo (List V)) : Mo V := fun st => (o st).bind fun v st => if P v st = true then (d st).bind fun vs st => F v vs st else .fail
noncomputable def mAsgB (k : Nat) (d : Mo V) : Mo FV := fun st => (d st).bind fun v st => (mSetBox k v st).bind fun _ st => .ok .next st
noncomputable def mRaise : Mo FV := fun _ => .exc
noncomputable def mTryNone (d : Mo V) : Mo FV := fun st => match d st with
  | .ok v st => .ok (.ret v) st
  | .exc => if st.cells.length = 0 then .ok (.ret .none) ⟨[], []⟩ else .fail
  | .fail => .fail
theorem pa_list : PlainAttrs "list" := F.plainAttrs_list
theorem pa_dict : PlainAttrs "dict" := F.plainAttrs_dict
theorem pa_bytes : PlainAttrs "bytes" := PySem.W.FB.plainAttrs_bytes
theorem pa_bytearray : PlainAttrs "bytearray" := FA.plainAttrs_bytearray
theorem sl_list_append : Slot "list" "append" "list.append" := slot_list_append
theorem sl_list_extend : Slot "list" "extend" "list.extend" := F.slot_list_extend
theorem sl_dict_get : Slot "dict" "get" "dict.get" := F.slot_dict_get
theorem sl_bytes_join : Slot "bytes" "join" "bytes.join" := FA.slot_bytes_join
theorem sl_bytearray_append : Slot "bytearray" "append" "bytearray.append" := FA.slot_bytearray_append
theorem sl_bytearray_extend : Slot "bytearray" "extend" "bytearray.extend" := FA.slot_bytearray_extend
theorem ty_list_append : typeOf (.builtin "list.append") = pure (.type "method_descriptor") := type_list_append
theorem ty_list_extend : typeOf (.builtin "list.extend") = pure (.type "method_descriptor") := F.type_list_extend
theorem ty_dict_get : typeOf (.builtin "dict.get") = pure (.type "method_descriptor") := F.type_dict_get
theorem ty_bytes_join : typeOf (.builtin "bytes.join") = pure (.type "method_descriptor") := FA.type_bytes_join
theorem ty_bytearray_append : typeOf (.builtin "bytearray.append") = pure (.type "method_descriptor") := FA.type_bytearray_append
theorem ty_bytearray_extend : typeOf (.builtin "bytearray.extend") = pure (.type "method_descriptor") := FA.type_bytearray_extend
section
variable {prog : Program} {Φ : Act} {lv : Nat}
theorem ht_isListC (σ : List Addr) (imm : List (Addr × Obj)) (st : St) (s : Shared) (v : V) (x : Value) (r : Rel prog Φ σ imm st s) (h : VR (kno imm Φ.Hk) σ v x) (hP : isListC v st = true) : s.TypeIs x "list" ∧ ∀ a, x = .ref a → ∃ o, s.heap.get? a = some o ∧ o.dict = none := by
  unfold isListC at hP
  split at hP
  · split at hP
    · rename_i vs e
      obtain ⟨a, o, ha, rfl, ho, h1, h2, _⟩ := r.cellAt h e
      exact ⟨⟨o, ho, h1⟩, fun b e => by cases e; exact ⟨o, ho, h2⟩⟩
    · exact absurd hP (by decide)
  · exact absurd hP (by decide)
theorem ht_isBarrC (σ : List Addr) (imm : List (Addr × Obj)) (st : St) (s : Shared) (v : V) (x : Value) (r : Rel prog Φ σ imm st s) (h : VR (kno imm Φ.Hk) σ v x) (hP : isBarrC v st = true) : s.TypeIs x "bytearray" ∧ ∀ a, x = .ref a → ∃ o, s.heap.get? a = some o ∧ o.dict = none := by
  unfold isBarrC at hP
  split at hP
  · split at hP
    · rename_i vs e
      obtain ⟨a, o, ha, rfl, ho, h1, h2, _⟩ := r.cellAt h e
      exact ⟨⟨o, ho, h1⟩, fun b e => by cases e; exact ⟨o, ho, h2⟩⟩
    · exact absurd hP (by decide)
  · exact absurd hP (by decide)
theorem ht_isDictC (σ : List Addr) (imm : List (Addr × Obj)) (st : St) (s : Shared) (v : V) (x : Value) (r : Rel prog Φ σ imm st s) (h : VR (kno imm Φ.Hk) σ v x) (hP : isDictC v st = true) : s.TypeIs x "dict" ∧ ∀ a, x = .ref a → ∃ o, s.heap.get? a = some o ∧ o.dict = none := by
  unfold isDictC at hP
  split at hP
  · split at hP
    · rename_i f n e
      obtain ⟨a, o, ha, rfl, ho, h1, _⟩ := r.cellAt h e
      exact ⟨⟨o, ho, h1.1⟩, fun b e => by cases e; exact ⟨o, ho, h1.2.1⟩⟩
    · exact absurd hP (by decide)
  · exact absurd hP (by decide)
theorem ht_isBytes (σ : List Addr) (imm : List (Addr × Obj)) (st : St) (s : Shared) (v : V) (x : Value) (r : Rel prog Φ σ imm st s) (h : VR (kno imm Φ.Hk) σ v x) (hP : isBytes v st = true) : s.TypeIs x "bytes" ∧ ∀ a, x = .ref a → ∃ o, s.heap.get? a = some o ∧ o.dict = none := by
  unfold isBytes at hP
  split at hP
  · simp only [VR] at h
    obtain ⟨b, t, rfl, _⟩ := h
    exact ⟨PySem.W.typeIs_bytes _ _ _, fun a e => by cases e⟩
  · exact absurd hP (by decide)
theorem SEs_arg {e : Expr} {es : List Expr} {d : Mo V} {ds : Mo (List V)} {pos : Pos} (h : SE prog Φ e d) (hs : SEs prog Φ (backTo pos (starEach es Φ.env)) ds)
    (he : backTo pos (starEach (e :: es) Φ.env) = (false, eval e Φ.env) :: backTo pos (starEach es Φ.env)) : SEs prog Φ (backTo pos (starEach (e :: es) Φ.env)) (mCons d ds) := by
  rw [he]
  exact SEs_cons h hs
theorem SX_asgB (O : Ok prog Φ lv) {k : Nat} {x : Str} {e : Expr} {p pos : Pos} {d : Mo V} (h : SE prog Φ e d) (hx : IsTG Φ (.box k) x)
    (hs : swapsWith e (some (.Name x p)) pos.line Φ.env = pure false) : SX prog Φ (.Assign [.Name x p] e pos) (mAsgB k d) := fun σ imm st s r => by
  rw [exec_Assign_Name _ _ _ _ _ hs]
  refine Snd.stand (Snd.bind (h _ _ _ _ r) fun v st' σ' imm' val s' _ _ _ r' hv => Snd.stand ?_)
  exact Snd.bind (g := fun _ st => R.ok FV.next st) (snd_TG O hx r' hv) fun _ st2 σ2 imm2 _ s2 _ _ _ r2 _ => Snd.pure r2 trivial
end
section
variable {K : Frag}
theorem boot_len : bootBuiltins ("len" : Str) = some (.builtin "len") := by kernel_rfl
theorem boot_min : bootBuiltins ("min" : Str) = some (.builtin "min") := by kernel_rfl
theorem boot_max : bootBuiltins ("max" : Str) = some (.builtin "max") := by kernel_rfl
theorem boot_abs : bootBuiltins ("abs" : Str) = some (.builtin "abs") := by kernel_rfl
theorem boot_sum : bootBuiltins ("sum" : Str) = some (.builtin "sum") := by kernel_rfl
theorem boot_all : bootBuiltins ("all" : Str) = some (.builtin "all") := by kernel_rfl
theorem boot_int : bootBuiltins ("int" : Str) = some (.type "int") := by kernel_rfl
theorem boot_bytes : bootBuiltins ("bytes" : Str) = some (.type "bytes") := by kernel_rfl
theorem boot_bytearray : bootBuiltins ("bytearray" : Str) = some (.type "bytearray") := by kernel_rfl
theorem boot_range : bootBuiltins ("range" : Str) = some (.type "range") := by kernel_rfl
end
end Mine
end
section
/-! text D -/
open PySem PySem.W
set_option Elab.async false
set_option autoImplicit false
set_option maxRecDepth 100000
namespace Mine
/-- hash_at: 0 octets, 1 at, 2 found -/
noncomputable def d_hash_at : Mo FV := mSeq (mAsg 2 (mBin .Add (mBin .Add (mBin .LShift (mSub (mLoc 0) (mLoc 1)) (mInt 16)) (mBin .LShift (mSub (mLoc 0) (mBin .Add (mLoc 1) (mInt 1))) (mInt 8))) (mSub (mLoc 0) (mBin .Add (mLoc 1) (mInt 2))))) (mSeq (mAsg 2 (mBin .Add (mLoc 2) (mBin .RShift (mLoc 2) (mInt 9)))) (mSeq (mAsg 2 (mBin .Add (mLoc 2) (mBin .RShift (mLoc 2) (mInt 5)))) (mSeq (mRet (mBin .Mod (mLoc 2) (mInt 256))) (mNext))))
noncomputable def f_hash_at : List V → Mo V := fCall false 2 1 0 d_hash_at
/-- match_at: 0 octets, 1 at, 2 begin, 3 end, 4 behind -/
noncomputable def d_match_at : Mo FV := mSeq (mAsg 3 (mCall fMin (mCons (mCall fLen (mCons (mLoc 0) (mNil))) (mCons (mBin .Add (mLoc 1) (mInt 66)) (mNil))))) (mSeq (mAsg 4 (mLoc 1)) (mSeq ((fun st => mWhile (mAnd (mTruth (mCmp .Lt (mLoc 4) (mLoc 3))) (mAnd (mTruth (mCmp .Eq (mSub (mLoc 0) (mLoc 4)) (mSub (mLoc 0) (mBin .Sub (mBin .Add (mLoc 2) (mLoc 4)) (mLoc 1))))) ((fun st => .ok true st)))) (mSeq (mAsg 4 (mBin .Add (mLoc 4) (mInt 1))) (mNext)) 5000 st)) (mSeq (mRet (mBin .Sub (mLoc 4) (mLoc 1))) (mNext))))
noncomputable def f_match_at : List V → Mo V := fCall false 3 2 0 d_match_at
/-- found_match: 0 octets, 1 at, 2 places, 3 mark, 4 begin, 5 many -/
noncomputable def d_found_match : Mo FV := mSeq (mIfS (mTruth (mCmp .Gt (mBin .Add (mLoc 1) (mInt 3)) (mCall fLen (mCons (mLoc 0) (mNil))))) (mSeq (mRet (mTup (mCons (mInt 0) (mCons (mInt 0) (mNil))))) (mNext)) (mNext)) (mSeq (mAsg 3 (mCall f_hash_at (mCons (mLoc 0) (mCons (mLoc 1) (mNil))))) (mSeq (mAsg 4 (mMeth fGet isDictC (mLoc 2) (mCons (mLoc 3) (mNil)))) (mSeq (mAsgSub (mLoc 2) (mLoc 3) (mLoc 1)) (mSeq (mIfS (mOr (mTruth (mCmp .Is (mLoc 4) (mV .none))) (mOr (mTruth (mCmp .GtE (mBin .Sub (mLoc 1) (mLoc 4)) (mInt 1024))) ((fun st => .ok false st)))) (mSeq (mRet (mTup (mCons (mInt 0) (mCons (mInt 0) (mNil))))) (mNext)) (mNext)) (mSeq (mAsg 5 (mCall f_match_at (mCons (mLoc 0) (mCons (mLoc 1) (mCons (mLoc 4) (mNil)))))) (mSeq (mRet (mIf (mTruth (mCmp .GtE (mLoc 5) (mInt 3))) (mTup (mCons (mLoc 5) (mCons (mBin .Sub (mLoc 1) (mLoc 4)) (mNil)))) (mTup (mCons (mInt 0) (mCons (mInt 0) (mNil)))))) (mNext)))))))
noncomputable def f_found_match : List V → Mo V := fCall true 3 3 0 d_found_match
/-- match_octets: 0 many, 1 offset -/
noncomputable def d_match_octets : Mo FV := mSeq (mRet (mCall fBytes (mCons (mLst (mCons (mBin .Add (mBin .LShift (mBin .Sub (mLoc 0) (mInt 3)) (mInt 2)) (mBin .RShift (mLoc 1) (mInt 8))) (mCons (mBin .Mod (mLoc 1) (mInt 256)) (mNil)))) (mNil)))) (mNext)
noncomputable def f_match_octets : List V → Mo V := fCall false 2 0 0 d_match_octets
/-- lzjb_pack: 0 octets, 1 most, 2 found, 3 places, 4 at, 5 thing, 6 here, 7 many, 8 offset -/
noncomputable def d_lzjb_pack : Mo FV := mSeq (mAsgT [.loc 2, .loc 3, .loc 4, .loc 5, .loc 6] (mTup (mCons (mCall fBarr (mNil)) (mCons (mDictC) (mCons (mInt 0) (mCons (mInt 0) (mCons (mInt 0) (mNil)))))))) (mSeq ((fun st => mWhile (mTruth (mCmp .Lt (mLoc 4) (mCall fLen (mCons (mLoc 0) (mNil))))) (mSeq (mIfS (mTruth (mCmp .Eq (mLoc 5) (mInt 0))) (mSeq (mAsg 6 (mCall fLen (mCons (mLoc 2) (mNil)))) (mSeq (mDrop (mMeth fBAppend isBarrC (mLoc 2) (mCons (mInt 0) (mNil)))) (mNext))) (mNext)) (mSeq (mAsgT [.loc 7, .loc 8] (mCall f_found_match (mCons (mLoc 0) (mCons (mLoc 4) (mCons (mLoc 3) (mNil)))))) (mSeq (mIfS (mTruth (mCmp .Gt (mLoc 7) (mInt 0))) (mSeq (mAsgSub (mLoc 2) (mLoc 6) (mBin .Add (mSub (mLoc 2) (mLoc 6)) (mBin .LShift (mInt 1) (mLoc 5)))) (mSeq (mDrop (mMeth fBExtend isBarrC (mLoc 2) (mCons (mCall f_match_octets (mCons (mLoc 7) (mCons (mLoc 8) (mNil)))) (mNil)))) (mSeq (mAsg 4 (mBin .Add (mLoc 4) (mLoc 7))) (mNext)))) (mSeq (mDrop (mMeth fBAppend isBarrC (mLoc 2) (mCons (mSub (mLoc 0) (mLoc 4)) (mNil)))) (mSeq (mAsg 4 (mBin .Add (mLoc 4) (mInt 1))) (mNext)))) (mSeq (mAsg 5 (mBin .Mod (mBin .Add (mLoc 5) (mInt 1)) (mInt 8))) (mSeq (mIfS (mTruth (mCmp .Gt (mCall fLen (mCons (mLoc 2) (mNil))) (mLoc 1))) (mSeq (mRet (mV .none)) (mNext)) (mNext)) (mNext)))))) 5000 st)) (mSeq (mRet (mCall fBytes (mCons (mLoc 2) (mNil)))) (mNext)))
noncomputable def f_lzjb_pack : List V → Mo V := fCall false 2 7 0 d_lzjb_pack
/-- copied: 0 found, 1 many, 2 offset, 3 size, 4 turn -/
noncomputable def d_copied : Mo FV := mSeq (mIfS (mOr (mTruth (mCmp .Eq (mLoc 2) (mInt 0))) (mOr (mTruth (mCmp .Gt (mLoc 2) (mCall fLen (mCons (mLoc 0) (mNil))))) ((fun st => .ok false st)))) (mSeq (mRaise) (mNext)) (mNext)) (mSeq (mForS (mCall fRange (mCons (mCall fMin (mCons (mLoc 1) (mCons (mBin .Sub (mLoc 3) (mCall fLen (mCons (mLoc 0) (mNil)))) (mNil)))) (mNil))) (setTG (.loc 4)) (mSeq (mDrop (mMeth fBAppend isBarrC (mLoc 0) (mCons (mSub (mLoc 0) (mBin .Sub (mCall fLen (mCons (mLoc 0) (mNil))) (mLoc 2))) (mNil)))) (mNext))) (mNext))
noncomputable def f_copied : List V → Mo V := fCall true 4 1 0 d_copied
/-- lzjb_unpack: 0 octets, 1 size, 2 found, 3 at, 4 thing, 5 marks, 6 wide -/
noncomputable def d_lzjb_unpack : Mo FV := mSeq (mAsgT [.loc 2, .loc 3, .loc 4, .loc 5] (mTup (mCons (mCall fBarr (mNil)) (mCons (mInt 0) (mCons (mInt 0) (mCons (mInt 0) (mNil))))))) (mSeq ((fun st => mWhile (mTruth (mCmp .Lt (mCall fLen (mCons (mLoc 2) (mNil))) (mLoc 1))) (mSeq (mIfS (mTruth (mCmp .Eq (mLoc 4) (mInt 0))) (mSeq (mIfS (mTruth (mCmp .GtE (mLoc 3) (mCall fLen (mCons (mLoc 0) (mNil))))) (mSeq (mRaise) (mNext)) (mNext)) (mSeq (mAsg 5 (mSub (mLoc 0) (mLoc 3))) (mSeq (mAsg 3 (mBin .Add (mLoc 3) (mInt 1))) (mNext)))) (mNext)) (mSeq (mAsg 6 (mBin .Add (mInt 1) (mBin .BitAnd (mBin .RShift (mLoc 5) (mLoc 4)) (mInt 1)))) (mSeq (mIfS (mTruth (mCmp .Gt (mBin .Add (mLoc 3) (mLoc 6)) (mCall fLen (mCons (mLoc 0) (mNil))))) (mSeq (mRaise) (mNext)) (mNext)) (mSeq (mIfS (mTruth (mCmp .Eq (mLoc 6) (mInt 2))) (mSeq (mDrop (mCall f_copied (mCons (mLoc 2) (mCons (mBin .Add (mBin .RShift (mSub (mLoc 0) (mLoc 3)) (mInt 2)) (mInt 3)) (mCons (mBin .Add (mBin .Mult (mBin .Mod (mSub (mLoc 0) (mLoc 3)) (mInt 4)) (mInt 256)) (mSub (mLoc 0) (mBin .Add (mLoc 3) (mInt 1)))) (mCons (mLoc 1) (mNil))))))) (mNext)) (mSeq (mDrop (mMeth fBAppend isBarrC (mLoc 2) (mCons (mSub (mLoc 0) (mLoc 3)) (mNil)))) (mNext))) (mSeq (mAsg 3 (mBin .Add (mLoc 3) (mLoc 6))) (mSeq (mAsg 4 (mBin .Mod (mBin .Add (mLoc 4) (mInt 1)) (mInt 8))) (mNext))))))) 5000 st)) (mSeq (mRet (mCall fBytes (mCons (mLoc 2) (mNil)))) (mNext)))
noncomputable def f_lzjb_unpack : List V → Mo V := fCall false 2 5 0 d_lzjb_unpack
/-- _law_octets: 0 script, 1 found, 2 number, 3 way, 4 begin; box 0 many -/
noncomputable def d_law_octets : Mo FV := mSeq (mAsg 1 (mV (.bytes []))) (mSeq (mForS (mSlice (mLoc 0) (mPair (mNone) (mSome (mInt 7)))) (setTG (.loc 2)) (mSeq (mAsgT [.loc 3, .box 0] (mTup (mCons (mBin .Mod (mCall fAbs (mCons (mLoc 2) (mNil))) (mInt 3)) (mCons (mBin .FloorDiv (mCall fAbs (mCons (mLoc 2) (mNil))) (mInt 3)) (mNil))))) (mSeq (mIfS (mTruth (mCmp .Eq (mLoc 3) (mInt 0))) (mSeq (mAsg 1 (mBin .Add (mLoc 1) (mCall fBytes (mCons (mComp (mCall fRange (mCons (mBin .Add (mBin .Mod (mBox 0) (mInt 9)) (mInt 1)) (mNil))) 1 (setTG (.loc 0)) ((fun st => .ok true st)) (mBin .Mod (mBin .Mult (mBox 0) (mBin .Add (mLoc 0) (mInt 3))) (mInt 251))) (mNil))))) (mNext)) (mSeq (mIfS (mAnd (mTruth (mCmp .Eq (mLoc 3) (mInt 1))) (mAnd (mTruth (mCmp .NotEq (mLoc 1) (mV (.bytes [])))) ((fun st => .ok true st)))) (mSeq (mAsg 4 (mBin .Mod (mBox 0) (mCall fLen (mCons (mLoc 1) (mNil))))) (mSeq (mAsg 1 (mBin .Add (mLoc 1) (mSlice (mLoc 1) (mPair (mSome (mLoc 4)) (mSome (mBin .Add (mBin .Add (mLoc 4) (mInt 3)) (mBin .Mod (mBin .FloorDiv (mBox 0) (mInt 7)) (mInt 80)))))))) (mNext))) (mSeq (mAsg 1 (mBin .Add (mLoc 1) (mBin .Mult (mCall fBytes (mCons (mLst (mCons (mBin .Mod (mBox 0) (mInt 5)) (mNil))) (mNil))) (mBin .Add (mBin .Mod (mBox 0) (mInt 90)) (mInt 1))))) (mNext))) (mNext))) (mNext)))) (mSeq (mRet (mSlice (mLoc 1) (mPair (mNone) (mSome (mInt 128))))) (mNext)))
noncomputable def f_law_octets : List V → Mo V := fCall false 1 4 1 d_law_octets
/-- _law_read: 0 octets, 1 size, 2 found, 3 things, 4 at, 5 marks, 6 bit, 7 is_match, 8 some, 9 many, 10 ago, 11 k -/
noncomputable def d_law_read : Mo FV := mSeq (mAsgS [.loc 2, .loc 3, .loc 4] (mTup (mCons (mLstC (mNil)) (mCons (mLstC (mNil)) (mCons (mInt 0) (mNil)))))) (mSeq ((fun st => mWhile (mTruth (mCmp .Lt (mCall fLen (mCons (mLoc 2) (mNil))) (mLoc 1))) (mSeq (mIfS (mTruth (mCmp .Eq (mSlice (mLoc 0) (mPair (mSome (mLoc 4)) (mSome (mBin .Add (mLoc 4) (mInt 1))))) (mV (.bytes [])))) (mSeq (mRet (mTup (mCons (mV .none) (mCons (mLst (mNil)) (mCons (mLoc 4) (mNil)))))) (mNext)) (mNext)) (mSeq (mAsg 5 (mSub (mLoc 0) (mLoc 4))) (mSeq (mAsg 4 (mBin .Add (mLoc 4) (mInt 1))) (mSeq (mForS (mCall fRange (mCons (mInt 8) (mNil))) (setTG (.loc 6)) (mSeq (mIfS (mTruth (mCmp .Lt (mCall fLen (mCons (mLoc 2) (mNil))) (mLoc 1))) (mSeq (mAsg 7 (mCmp .Eq (mBin .Mod (mBin .FloorDiv (mLoc 5) (mBin .Pow (mInt 2) (mLoc 6))) (mInt 2)) (mInt 1))) (mSeq (mAsg 8 (mSlice (mLoc 0) (mPair (mSome (mLoc 4)) (mSome (mBin .Add (mBin .Add (mLoc 4) (mInt 1)) (mCall fInt (mCons (mLoc 7) (mNil)))))))) (mSeq (mIfS (mTruth (mCmp .NotEq (mCall fLen (mCons (mLoc 8) (mNil))) (mBin .Add (mInt 1) (mCall fInt (mCons (mLoc 7) (mNil)))))) (mSeq (mRet (mTup (mCons (mV .none) (mCons (mLst (mNil)) (mCons (mLoc 4) (mNil)))))) (mNext)) (mNext)) (mSeq (mAsg 4 (mBin .Add (mLoc 4) (mCall fLen (mCons (mLoc 8) (mNil))))) (mSeq (mIfS (mNot (mTruth (mLoc 7))) (mSeq (mDrop (mMeth fAppend isListC (mLoc 3) (mCons (mTup (mCons (mCall fLen (mCons (mLoc 2) (mNil))) (mCons (mInt 1) (mCons (mInt 0) (mNil))))) (mNil)))) (mSeq (mDrop (mMeth fAppend isListC (mLoc 2) (mCons (mSub (mLoc 8) (mInt 0)) (mNil)))) (mNext))) (mSeq (mAsgS [.loc 9, .loc 10] (mTup (mCons (mBin .Add (mBin .FloorDiv (mSub (mLoc 8) (mInt 0)) (mInt 4)) (mInt 3)) (mCons (mBin .Add (mBin .Mult (mBin .Mod (mSub (mLoc 8) (mInt 0)) (mInt 4)) (mInt 256)) (mSub (mLoc 8) (mInt 1))) (mNil))))) (mSeq (mIfS (mOr (mTruth (mCmp .Eq (mLoc 10) (mInt 0))) (mOr (mTruth (mCmp .Gt (mLoc 10) (mCall fLen (mCons (mLoc 2) (mNil))))) ((fun st => .ok false st)))) (mSeq (mRet (mTup (mCons (mV .none) (mCons (mLst (mNil)) (mCons (mLoc 4) (mNil)))))) (mNext)) (mNext)) (mSeq (mDrop (mMeth fAppend isListC (mLoc 3) (mCons (mTup (mCons (mCall fLen (mCons (mLoc 2) (mNil))) (mCons (mLoc 9) (mCons (mLoc 10) (mNil))))) (mNil)))) (mSeq (mForS (mCall fRange (mCons (mLoc 9) (mNil))) (setTG (.loc 11)) (mSeq (mDrop (mMeth fAppend isListC (mLoc 2) (mCons (mSub (mLoc 2) (mNeg (mLoc 10))) (mNil)))) (mNext))) (mNext)))))) (mNext)))))) (mSeq (mIfS (mTruth (mCmp .Gt (mBin .FloorDiv (mLoc 5) (mBin .Pow (mInt 2) (mLoc 6))) (mInt 0))) (mSeq (mDrop (mMeth fAppend isListC (mLoc 3) (mCons (mTup (mCons (mInt 0) (mCons (mInt 0) (mCons (mInt 9999) (mNil))))) (mNil)))) (mNext)) (mNext)) (mNext))) (mNext))) (mNext))))) 5000 st)) (mSeq (mRet (mTup (mCons (mCall fBytes (mCons (mSlice (mLoc 2) (mPair (mNone) (mSome (mLoc 1)))) (mNil))) (mCons (mLoc 3) (mCons (mLoc 4) (mNil)))))) (mNext)))
noncomputable def f_law_read : List V → Mo V := fCall false 2 10 0 d_law_read
/-- _law_heard: 0 octets, 1 size -/
noncomputable def d_law_heard : Mo FV := mSeq (mTryNone (mCall f_lzjb_unpack (mCons (mLoc 0) (mCons (mLoc 1) (mNil))))) (mNext)
noncomputable def f_law_heard : List V → Mo V := fCall false 2 0 0 d_law_heard
/-- _law_are_things: 0 octets, 1 things, 2 place, 3 many, 4 ago -/
noncomputable def d_law_are_things : Mo FV := mSeq (mForS (mLoc 1) (setTup [.loc 2, .loc 3, .loc 4]) (mSeq (mIfS (mOr (mTruth (mCmp .Gt (mLoc 4) (mInt 1023))) (mOr (mAnd (mTruth (mCmp .Gt (mLoc 4) (mInt 0))) (mAnd (mTruth (mCmp .Gt (mBin .Add (mLoc 2) (mLoc 3)) (mCall fLen (mCons (mLoc 0) (mNil))))) ((fun st => .ok true st)))) ((fun st => .ok false st)))) (mSeq (mRet (mV (.bool false))) (mNext)) (mNext)) (mSeq (mIfS (mAnd (mTruth (mCmp .Gt (mLoc 4) (mInt 0))) (mAnd (mTruth (mCmp .Lt (mLoc 3) (mInt 66))) (mAnd (mTruth (mCmp .Lt (mBin .Add (mLoc 2) (mLoc 3)) (mCall fLen (mCons (mLoc 0) (mNil))))) (mAnd (mTruth (mCmp .Eq (mSub (mLoc 0) (mBin .Add (mLoc 2) (mLoc 3))) (mSub (mLoc 0) (mBin .Sub (mBin .Add (mLoc 2) (mLoc 3)) (mLoc 4))))) ((fun st => .ok true st)))))) (mSeq (mRet (mV (.bool false))) (mNext)) (mNext)) (mNext)))) (mSeq (mRet (mV (.bool true))) (mNext))
noncomputable def f_law_are_things : List V → Mo V := fCall false 2 3 0 d_law_are_things
/-- _law_run: 0 octet, 1 many, 2 things, 3 left, 4 ago, 5 more -/
noncomputable def d_law_run : Mo FV := mSeq (mAsgS [.loc 2, .loc 3, .loc 4] (mTup (mCons (mIf (mTruth (mCmp .Gt (mLoc 1) (mInt 0))) (mLstC (mCons (mCall fBytes (mCons (mLst (mCons (mLoc 0) (mNil))) (mNil))) (mNil))) (mLstC (mNil))) (mCons (mBin .Sub (mLoc 1) (mInt 1)) (mCons (mInt 1) (mNil)))))) (mSeq ((fun st => mWhile (mTruth (mCmp .Gt (mLoc 3) (mInt 0))) (mSeq (mAsg 5 (mIf (mTruth (mCmp .Gt (mLoc 3) (mInt 2))) (mCall fMin (mCons (mLoc 3) (mCons (mInt 66) (mNil)))) (mInt 0))) (mSeq (mDrop (mMeth fAppend isListC (mLoc 2) (mCons (mIf (mTruth (mCmp .Gt (mLoc 5) (mInt 0))) (mCall fBytes (mCons (mLst (mCons (mBin .Mult (mBin .Sub (mLoc 5) (mInt 3)) (mInt 4)) (mCons (mLoc 4) (mNil)))) (mNil))) (mCall fBytes (mCons (mLst (mCons (mLoc 0) (mNil))) (mNil)))) (mNil)))) (mSeq (mAsgS [.loc 3, .loc 4] (mTup (mCons (mBin .Sub (mLoc 3) (mCall fMax (mCons (mLoc 5) (mCons (mInt 1) (mNil))))) (mCons (mInt 66) (mNil))))) (mNext)))) 5000 st)) (mSeq (mRet (mLoc 2)) (mNext)))
noncomputable def f_law_run : List V → Mo V := fCall false 2 4 0 d_law_run
/-- _law_mapped: 0 things, 1 found, 2 at; box 0 some -/
noncomputable def d_law_mapped : Mo FV := mSeq (mAsg 1 (mV (.bytes []))) (mSeq (mForS (mCall fRange (mCons (mInt 0) (mCons (mCall fLen (mCons (mLoc 0) (mNil))) (mCons (mInt 8) (mNil))))) (setTG (.loc 2)) (mSeq (mAsgB 0 (mSlice (mLoc 0) (mPair (mSome (mLoc 2)) (mSome (mBin .Add (mLoc 2) (mInt 8)))))) (mSeq (mAsg 1 (mBin .Add (mBin .Add (mLoc 1) (mCall fBytes (mCons (mLst (mCons (mCall fSum (mCons (mComp (mCall fRange (mCons (mCall fLen (mCons (mBox 0) (mNil))) (mNil))) 1 (setTG (.loc 0)) (mTruth (mCmp .Eq (mCall fLen (mCons (mSub (mBox 0) (mLoc 0)) (mNil))) (mInt 2))) (mBin .Pow (mInt 2) (mLoc 0))) (mNil))) (mNil))) (mNil)))) (mMeth fJoin isBytes (mV (.bytes [])) (mCons (mBox 0) (mNil))))) (mNext)))) (mSeq (mRet (mLoc 1)) (mNext)))
noncomputable def f_law_mapped : List V → Mo V := fCall false 1 2 1 d_law_mapped
/-- law: 0 script, 1 octets, 2 raw, 3 place, 4 size, 5 told, 6 found, 7 things, 8 end, 9 far, 10 lone, 11 plain, 12 due, 13 some, 14 at, 15 turned -/
noncomputable def d_law : Mo FV := mSeq (mAsg 0 (mSlice (mLoc 0) (mPair (mNone) (mSome (mInt 63))))) (mSeq (mAsgS [.loc 1, .loc 2] (mTup (mCons (mCall f_law_octets (mCons (mLoc 0) (mNil))) (mCons (mCall fBytes (mCons (mComp (mLoc 0) 1 (setTG (.loc 0)) ((fun st => .ok true st)) (mBin .Mod (mLoc 0) (mInt 256))) (mNil))) (mNil))))) (mSeq (mAsgS [.loc 3, .loc 4] (mTup (mCons (mIf (mTruth (mNeL (mLoc 0) (mLst (mNil)))) (mSub (mLoc 0) (mInt 0)) (mInt 0)) (mCons (mBin .Mod (mCall fSum (mCons (mLoc 0) (mNil))) (mInt 90)) (mNil))))) (mSeq (mAsg 5 (mCall f_lzjb_pack (mCons (mLoc 1) (mCons (mInt 999) (mNil))))) (mSeq (mAsgT [.loc 6, .loc 7, .loc 8] (mCall f_law_read (mCons (mLoc 5) (mCons (mCall fLen (mCons (mLoc 1) (mNil))) (mNil))))) (mSeq (mIfS (mOr (mTruth (mCmp .NotEq (mLoc 6) (mLoc 1))) (mOr (mTruth (mCmp .NotEq (mLoc 8) (mCall fLen (mCons (mLoc 5) (mNil))))) (mOr (mNot (mTruth (mCall f_law_are_things (mCons (mLoc 1) (mCons (mLoc 7) (mNil)))))) ((fun st => .ok false st))))) (mSeq (mRet (mV (.bool false))) (mNext)) (mNext)) (mSeq (mIfS (mOr (mTruth (mCmp .NotEq (mCall f_lzjb_pack (mCons (mLoc 1) (mCons (mCall fLen (mCons (mLoc 5) (mNil))) (mNil)))) (mLoc 5))) (mOr (mAnd (mTruth (mCmp .NotEq (mLoc 1) (mV (.bytes [])))) (mAnd (mTruth (mCmp .IsNot (mCall f_lzjb_pack (mCons (mLoc 1) (mCons (mBin .Sub (mCall fLen (mCons (mLoc 5) (mNil))) (mInt 1)) (mNil)))) (mV .none))) ((fun st => .ok true st)))) ((fun st => .ok false st)))) (mSeq (mRet (mV (.bool false))) (mNext)) (mNext)) (mSeq (mIfS (mTruth (mNeL (mLst (mCons (mCall f_law_heard (mCons (mLoc 5) (mCons (mCall fLen (mCons (mLoc 1) (mNil))) (mNil)))) (mCons (mCall f_law_heard (mCons (mBin .Add (mLoc 5) (mLoc 2)) (mCons (mCall fLen (mCons (mLoc 1) (mNil))) (mNil)))) (mNil)))) (mLst (mCons (mLoc 1) (mCons (mLoc 1) (mNil)))))) (mSeq (mRet (mV (.bool false))) (mNext)) (mNext)) (mSeq (mIfS (mTruth (mCmp .NotEq (mCall f_lzjb_pack (mCons (mBin .Mult (mCall fBytes (mCons (mLst (mCons (mBin .Mod (mLoc 3) (mInt 256)) (mNil))) (mNil))) (mBin .Mod (mLoc 3) (mInt 150))) (mCons (mInt 999) (mNil)))) (mCall f_law_mapped (mCons (mCall f_law_run (mCons (mBin .Mod (mLoc 3) (mInt 256)) (mCons (mBin .Mod (mLoc 3) (mInt 150)) (mNil)))) (mNil))))) (mSeq (mRet (mV (.bool false))) (mNext)) (mNext)) (mSeq (mAsgS [.loc 9, .loc 10] (mTup (mCons (mSub (mLst (mCons (mInt 255) (mCons (mInt 256) (mCons (mInt 600) (mCons (mInt 1023) (mCons (mInt 1024) (mNil))))))) (mBin .Mod (mLoc 3) (mInt 5))) (mCons (mLst (mCons (mCall fBytes (mCons (mLst (mCons (mInt 1) (mNil))) (mNil))) (mCons (mCall fBytes (mCons (mLst (mCons (mInt 2) (mNil))) (mNil))) (mCons (mCall fBytes (mCons (mLst (mCons (mInt 3) (mNil))) (mNil))) (mNil))))) (mNil))))) (mSeq (mAsg 11 (mBin .Add (mBin .Add (mCall fBytes (mCons (mLst (mCons (mInt 1) (mCons (mInt 2) (mCons (mInt 3) (mNil))))) (mNil))) (mCall fBytes (mCons (mBin .Sub (mLoc 9) (mInt 3)) (mNil)))) (mCall fBytes (mCons (mLst (mCons (mInt 1) (mCons (mInt 2) (mCons (mInt 3) (mNil))))) (mNil))))) (mSeq (mAsg 12 (mCall f_law_mapped (mCons (mBin .Add (mBin .Add (mLoc 10) (mCall f_law_run (mCons (mInt 0) (mCons (mBin .Sub (mLoc 9) (mInt 3)) (mNil))))) (mIf (mTruth (mCmp .Lt (mLoc 9) (mInt 1024))) (mLst (mCons (mCall fBytes (mCons (mLst (mCons (mBin .FloorDiv (mLoc 9) (mInt 256)) (mCons (mBin .Mod (mLoc 9) (mInt 256)) (mNil)))) (mNil))) (mNil))) (mLoc 10))) (mNil)))) (mSeq (mIfS (mTruth (mNeL (mLst (mCons (mCall f_lzjb_pack (mCons (mLoc 11) (mCons (mInt 999) (mNil)))) (mCons (mCall f_law_heard (mCons (mLoc 12) (mCons (mCall fLen (mCons (mLoc 11) (mNil))) (mNil)))) (mNil)))) (mLst (mCons (mLoc 12) (mCons (mLoc 11) (mNil)))))) (mSeq (mRet (mV (.bool false))) (mNext)) (mNext)) (mSeq (mAsg 13 (mLstC (mCons (mTup (mCons (mLoc 5) (mCons (mLoc 4) (mNil)))) (mCons (mTup (mCons (mLoc 2) (mCons (mLoc 4) (mNil)))) (mNil))))) (mSeq (mIfS (mTruth (mCmp .NotEq (mLoc 1) (mV (.bytes [])))) (mSeq (mAsg 14 (mBin .Mod (mLoc 3) (mCall fLen (mCons (mLoc 5) (mNil))))) (mSeq (mAsg 15 (mBin .Add (mBin .Add (mSlice (mLoc 5) (mPair (mNone) (mSome (mLoc 14)))) (mCall fBytes (mCons (mLst (mCons (mBin .Mod (mBin .Add (mSub (mLoc 5) (mLoc 14)) (mBin .FloorDiv (mLoc 3) (mInt 170))) (mInt 256)) (mNil))) (mNil)))) (mSlice (mLoc 5) (mPair (mSome (mBin .Add (mLoc 14) (mInt 1))) (mNone))))) (mSeq (mDrop (mMeth fExtendL isListC (mLoc 13) (mCons (mLst (mCons (mTup (mCons (mSlice (mLoc 5) (mPair (mNone) (mSome (mLoc 14)))) (mCons (mCall fLen (mCons (mLoc 1) (mNil))) (mNil)))) (mCons (mTup (mCons (mLoc 15) (mCons (mCall fLen (mCons (mLoc 1) (mNil))) (mNil)))) (mNil)))) (mNil)))) (mNext)))) (mNext)) (mSeq (mRet (mCall fAll (mCons (mComp (mLoc 13) 2 (setTup [.loc 0, .loc 1]) ((fun st => .ok true st)) (mCmp .Eq (mCall (fun vs st => (f_law_heard vs st).noExc) (mCons (mLoc 0) (mCons (mLoc 1) (mNil)))) (mSub (mCall (fun vs st => (f_law_read vs st).noExc) (mCons (mLoc 0) (mCons (mLoc 1) (mNil)))) (mInt 0)))) (mNil)))) (mNext))))))))))))))))
noncomputable def f_law : List V → Mo V := fCall false 1 15 0 d_law
end Mine
end
section
/-! text A1 -/
set_option Elab.async false
set_option autoImplicit false
set_option linter.unusedVariables false
set_option linter.unusedSimpArgs false
namespace Mine
/-! the law, in plain Lean: what the parts compute -/
noncomputable def gI (ks : List Int) (i : Int) : Int := ks.getD i.toNat 0
noncomputable def OB (ks : List Int) : Prop := ∀ x ∈ ks, 0 ≤ x ∧ x < 256
theorem gI_ob {ks : List Int} (h : OB ks) (i : Int) : 0 ≤ gI ks i ∧ gI ks i < 256 := by
  unfold gI
  rw [List.getD_eq_getElem?_getD]
  cases e : ks[i.toNat]? with
  | none => simp
  | some x => exact h x (List.mem_of_getElem? e)
section
variable {st : St} {ks : List Int} {i j : Int}
theorem sub_bytes (h0 : 0 ≤ i) (h1 : i < ks.length) (h2 : ks.length ≤ 1048576) : subV (.bytes ks) (.int i) st = .ok (.int (gI ks i)) st := if_pos ⟨h0, h1, h2⟩
theorem sub_barr0 {l : List (Option V)} {cs : List Cell} {k : Nat} (e : cs[k]? = some (.barr ks)) (h0 : 0 ≤ i) (h1 : i < ks.length) (h2 : ks.length ≤ 1048576) : subV (.ref k) (.int i) ⟨l, cs⟩ = .ok (.int (gI ks i)) ⟨l, cs⟩ := by
  simp only [subV, listOf, barrOf, e]
  exact if_pos ⟨h0, h1, h2⟩
theorem sub_barr {l : List (Option V)} {cs : List Cell} (h0 : 0 ≤ i) (h1 : i < ks.length) (h2 : ks.length ≤ 1048576) : subV (.ref 0) (.int i) ⟨l, .barr ks :: cs⟩ = .ok (.int (gI ks i)) ⟨l, .barr ks :: cs⟩ := sub_barr0 rfl h0 h1 h2
theorem len_bytes (h : ks.length ≤ 1048576) : fLen [.bytes ks] st = .ok (.int ks.length) st := if_pos h
theorem len_barr {l : List (Option V)} {cs : List Cell} (h : ks.length ≤ 1048576) : fLen [.ref 0] ⟨l, .barr ks :: cs⟩ = .ok (.int ks.length) ⟨l, .barr ks :: cs⟩ := if_pos h
theorem len_list {vs : List V} {l : List (Option V)} {cs : List Cell} (h : vs.length ≤ 1048576) : fLen [.ref 0] ⟨l, .list vs :: cs⟩ = .ok (.int vs.length) ⟨l, .list vs :: cs⟩ := if_pos h
theorem bin_add : binV .Add (.int i) (.int j) st = .ok (.int (i + j)) st := rfl
theorem bin_sub : binV .Sub (.int i) (.int j) st = .ok (.int (i - j)) st := rfl
theorem bin_mul (h : -(18446744073709551616) < j ∧ j < 18446744073709551616) : binV .Mult (.int i) (.int j) st = .ok (.int (i * j)) st := if_pos h
theorem bin_div (h : 0 < j ∧ j < 1073741824) : binV .FloorDiv (.int i) (.int j) st = .ok (.int (i / j)) st := if_pos h
theorem bin_mod (h : 0 < j) : binV .Mod (.int i) (.int j) st = .ok (.int (i % j)) st := if_pos h
theorem bin_shl (h : 0 ≤ j ∧ j ≤ 1000 ∧ -18446744073709551616 < i ∧ i < 18446744073709551616) : binV .LShift (.int i) (.int j) st = .ok (.int (i * 2 ^ j.toNat)) st := if_pos ⟨h.1, h.2.1, by lia⟩
theorem bin_shr (h : 0 ≤ j) : binV .RShift (.int i) (.int j) st = .ok (.int (i / 2 ^ j.toNat)) st := if_pos h
theorem bin_and : binV .BitAnd (.int i) (.int 1) st = .ok (.int (i % 2)) st := rfl
theorem bin_pow (h : 0 ≤ j ∧ j ≤ 1000) : binV .Pow (.int 2) (.int j) st = .ok (.int (2 ^ j.toNat)) st := if_pos ⟨rfl, h⟩
theorem bin_cat {js : List Int} (h : ks.length + js.length ≤ 16777216) : binV .Add (.bytes ks) (.bytes js) st = .ok (.bytes (ks ++ js)) st := if_pos h
theorem bapp_ok {l : List (Option V)} {cs : List Cell} (h : ks.length < 1048576 ∧ 0 ≤ i ∧ i < 256) : fBAppend (.ref 0) [.int i] ⟨l, .barr ks :: cs⟩ = .ok .none ⟨l, .barr (ks ++ [i]) :: cs⟩ := if_pos h
theorem get_dict {l : List (Option V)} {c : Cell} {f : Int → Option Int} {n : Nat} : fGet (.ref 1) [.int i] ⟨l, [c, .dict f n]⟩ = .ok (match f i with
      | some j => .int j
      | none => .none) ⟨l, [c, .dict f n]⟩ := rfl
theorem set_dict {l : List (Option V)} {c : Cell} {f : Int → Option Int} {n : Nat} (h : n ≤ 1000000) : setV (.ref 1) (.int i) (.int j) ⟨l, [c, .dict f n]⟩ = .ok () ⟨l, [c, .dict (fun y => if y = i then some j else f y) (n + 1)]⟩ := if_pos h
theorem set_barr {l : List (Option V)} {cs : List Cell} (h : 0 ≤ i ∧ i < ks.length ∧ ks.length ≤ 1048576 ∧ 0 ≤ j ∧ j < 256) : setV (.ref 0) (.int i) (.int j) ⟨l, .barr ks :: cs⟩ = .ok () ⟨l, .barr (ks.set i.toNat j) :: cs⟩ := if_pos h
theorem bext_ok {js : List Int} {l : List (Option V)} {cs : List Cell} (h : ks.length + js.length ≤ 1048576) : fBExtend (.ref 0) [.bytes js] ⟨l, .barr ks :: cs⟩ = .ok .none ⟨l, .barr (ks ++ js) :: cs⟩ := if_pos h
end
theorem R_bind_ok {α β : Type} {a : α} {st : St} {f : α → St → R β} : (R.ok a st).bind f = f a st := rfl
theorem R_bind_exc {α β : Type} {f : α → St → R β} : (R.exc : R α).bind f = .exc := rfl
theorem R_bind_fail {α β : Type} {f : α → St → R β} : (R.fail : R α).bind f = .fail := rfl
/-! statements in a row, loops -/
theorem seq_next {a b : Mo FV} {st st' : St} (h : a st = .ok .next st') : mSeq a b st = b st' := by simp only [mSeq, h, R_bind_ok]
theorem seq_ret {a b : Mo FV} {st st' : St} {v : V} (h : a st = .ok (.ret v) st') : mSeq a b st = .ok (.ret v) st' := by simp only [mSeq, h, R_bind_ok]
theorem seq_exc {a b : Mo FV} {st : St} (h : a st = .exc) : mSeq a b st = .exc := by simp only [mSeq, h, R_bind_exc]
theorem w_spec {X : Type} {T : Mo Bool} {B : Mo FV} (S : X → St) (inv : X → Prop) (μ : X → Nat) (Post : R FV → Prop)
    (h : ∀ x, inv x → (T (S x) = .ok false (S x) ∧ Post (.ok .next (S x))) ∨ (T (S x) = .ok true (S x) ∧ ((∃ y, B (S x) = .ok .next (S y) ∧ inv y ∧ μ y < μ x) ∨ (∃ v st, B (S x) = .ok (.ret v) st ∧ Post (.ok (.ret v) st)) ∨ (B (S x) = .exc ∧ Post .exc)))) :
    ∀ n x, inv x → μ x < n → Post (mWhile T B n (S x)) := by
  intro n
  induction n with
  | zero => intro x _ h; lia
  | succ n ih =>
    intro x hx hn
    unfold mWhile
    rcases h x hx with ⟨h1, h2⟩ | ⟨h1, h2⟩
    · simp only [h1, R_bind_ok, Bool.false_eq_true, if_false]; exact h2
    · simp only [h1, R_bind_ok, if_true]
      rcases h2 with ⟨y, h3, h4, h5⟩ | ⟨v, st, h3, h4⟩ | ⟨h3, h4⟩
      · simp only [h3, R_bind_ok]; exact ih y h4 (by lia)
      · simp only [h3, R_bind_ok]; exact h4
      · simp only [h3, R_bind_exc]; exact h4
theorem for_spec {X : Type} {src : Src} {asg : V → Mo Unit} {b : Mo FV} (S : X → St) (N : Nat) (val : Nat → V) (inv : Nat → X → Prop) (Post : R FV → Prop)
    (hsrc : ∀ i x, inv i x → i ≤ N → srcAt src i (S x) = some (if i < N then some (val i) else none))
    (hstep : ∀ i x, i < N → inv i x → ∃ st1, asg (val i) (S x) = .ok () st1 ∧ ((∃ y, b st1 = .ok .next (S y) ∧ inv (i + 1) y) ∨ (∃ v st, b st1 = .ok (.ret v) st ∧ Post (.ok (.ret v) st)) ∨ (b st1 = .exc ∧ Post .exc)))
    (hend : ∀ x, inv N x → Post (.ok .next (S x))) : ∀ n i x, inv i x → i ≤ N → N - i < n → Post (mForI src asg b n i (S x)) := by
  intro n
  induction n with
  | zero => intro i x _ _ h; lia
  | succ n ih =>
    intro i x hx hi hn
    unfold mForI
    rw [hsrc i x hx hi]
    by_cases hlt : i < N
    · rw [if_pos hlt]
      obtain ⟨st1, h1, h2⟩ := hstep i x hlt hx
      simp only [h1, R_bind_ok]
      rcases h2 with ⟨y, h3, h4⟩ | ⟨v, st, h3, h4⟩ | ⟨h3, h4⟩
      · simp only [h3, R_bind_ok]; exact ih (i + 1) y h4 (by lia) (by lia)
      · simp only [h3, R_bind_ok]; exact h4
      · simp only [h3, R_bind_exc]; exact h4
    · rw [if_neg hlt]
      obtain rfl : i = N := by lia
      exact hend x hx
/-! hash_at -/
noncomputable def hashI (ks : List Int) (i : Int) : Int :=
  let a := gI ks i * 65536 + gI ks (i + 1) * 256 + gI ks (i + 2)
  let b := a + a / 512
  let c := b + b / 32
  c % 256
theorem a_hash_at {ks : List Int} {i : Int} {st : St} (hk : OB ks) (hl : ks.length ≤ 1048576) (h0 : 0 ≤ i) (h1 : i + 2 < ks.length) : f_hash_at [.bytes ks, .int i] st = .ok (.int (hashI ks i)) st := by
  have a0 := gI_ob hk i
  have a1 := gI_ob hk (i + 1)
  simp (disch := lia) only [f_hash_at, fCall, fRet, fBeg, List.length_cons, List.length_nil, Nat.reduceAdd, Bool.false_eq_true, flats, V.flat, Bool.and_self, or_true, and_self, d_hash_at, mSeq, mAsg, mBin, mSub, mLoc, List.map_cons, List.map_nil, List.replicate, List.cons_append, List.nil_append, List.getElem?_cons_zero, if_false, List.append_nil, R_bind_ok, List.getElem?_cons_succ, sub_bytes, mInt, bin_shl, bin_add, List.set_cons_succ, List.set_cons_zero, mRet, mNext, bin_shr, bin_mod, deref, retV, deref1, if_true]
  rfl
/-! match_at -/
noncomputable def lcp : Nat → List Int → List Int → Nat
  | 0, _, _ => 0
  | k + 1, x :: xs, y :: ys => if x = y then lcp k xs ys + 1 else 0
  | _ + 1, _, _ => 0
theorem drop_cons {ks : List Int} {i : Nat} (h : i < ks.length) : ks.drop i = gI ks i :: ks.drop (i + 1) := by
  rw [List.drop_eq_getElem_cons h]
  unfold gI
  simp [List.getD_eq_getElem?_getD, List.getElem?_eq_getElem h]
theorem a_match_at {ks : List Int} {i j : Nat} {st : St} (hl : ks.length ≤ 1048576) (hj : j < i) (hi : i ≤ ks.length) : f_match_at [.bytes ks, .int i, .int j] st = .ok (.int (lcp 66 (ks.drop i) (ks.drop j))) st := by
  let e : Int := if (i : Int) + 66 < ks.length then (i : Int) + 66 else ks.length
  let S : Nat → St := fun b => ⟨[some (.bytes ks), some (.int i), some (.int j), some (.int e), some (.int (b : Int))], []⟩
  have key : ∀ st, st = S i → d_match_at ⟨[some (.bytes ks), some (.int i), some (.int j), none, none], []⟩ = .ok (.ret (.int (lcp 66 (ks.drop i) (ks.drop j)))) (S (i + lcp 66 (ks.drop i) (ks.drop j))) := by
    intro _ _
    unfold d_match_at
    refine (seq_next (st' := ⟨[some (.bytes ks), some (.int i), some (.int j), some (.int e), none], []⟩) (by simp (disch := lia) only [mAsg, mCall, mCons, mLoc, List.getElem?_cons_zero, mNil, R_bind_ok, len_bytes, mBin, mInt, List.getElem?_cons_succ, bin_add, fMin, List.set_cons_succ, List.set_cons_zero]; rfl)).trans ?_
    refine (seq_next (st' := S i) (by simp (disch := lia) only [mAsg, mLoc, List.getElem?_cons_succ, List.getElem?_cons_zero, R_bind_ok, List.set_cons_succ, List.set_cons_zero] <;> rfl)).trans ?_
    have he : e = ((min ks.length (i + 66) : Nat) : Int) := by simp only [e]; split <;> lia
    refine (seq_next (st' := S (i + lcp 66 (ks.drop i) (ks.drop j))) ?_).trans ?_
    · refine w_spec S (fun b => i ≤ b ∧ b ≤ min ks.length (i + 66) ∧ b + lcp (i + 66 - b) (ks.drop b) (ks.drop (j + b - i)) = i + lcp 66 (ks.drop i) (ks.drop j)) (fun b => i + 66 - b) (fun r => r = .ok .next (S (i + lcp 66 (ks.drop i) (ks.drop j)))) ?_ 5000 i ?_ (by lia)
      · rintro b ⟨h1, h2, h3⟩
        by_cases hb : b < min ks.length (i + 66)
        · have hc : (i + 66 - b) = (i + 66 - (b + 1)) + 1 := by lia
          have hbe : (b : Int) < e := by rw [he]; lia
          have hjb : (j : Int) + b - i = ((j + b - i : Nat) : Int) := by lia
          rw [drop_cons (show b < ks.length by lia), drop_cons (show j + b - i < ks.length by lia), hc] at h3
          simp only [lcp] at h3
          by_cases hg : gI ks b = gI ks ((j + b - i : Nat) : Int)
          · rw [if_pos hg] at h3
            right
            refine ⟨?_, .inl ⟨b + 1, ?_, ⟨by lia, by lia, ?_⟩, by lia⟩⟩
            · simp (disch := lia) only [mAnd, mTruth, mCmp, mLoc, List.getElem?_cons_succ, List.getElem?_cons_zero, cmpV, eqV, neV, ordV, isV, isNotV, R_bind_ok, hbe, decide_true, truthV, mSub, mBin, sub_bytes, hg, bin_add, bin_sub, hjb, beq_self_eq_true, if_true, S]
            · simp (disch := lia) only [mSeq, mAsg, mBin, mLoc, List.getElem?_cons_succ, List.getElem?_cons_zero, mInt, R_bind_ok, bin_add, List.set_cons_succ, List.set_cons_zero, mNext, S]
              rfl
            · rw [show j + (b + 1) - i = j + b - i + 1 by lia]; lia
          · rw [if_neg hg] at h3
            left
            refine ⟨?_, by rw [show i + lcp 66 (ks.drop i) (ks.drop j) = b by lia]⟩
            simp (disch := lia) only [mAnd, mTruth, mCmp, mLoc, List.getElem?_cons_succ, List.getElem?_cons_zero, cmpV, eqV, neV, ordV, isV, isNotV, R_bind_ok, hbe, decide_true, truthV, mSub, mBin, sub_bytes, bin_add, bin_sub, hjb, if_true, S]
            simp [hg]
        · left
          have hbe : ¬ (b : Int) < e := by rw [he]; lia
          refine ⟨?_, ?_⟩
          · simp (disch := lia) only [mAnd, mTruth, mCmp, mLoc, List.getElem?_cons_succ, List.getElem?_cons_zero, cmpV, eqV, neV, ordV, isV, isNotV, R_bind_ok, hbe, decide_false, truthV, mSub, mBin, Bool.false_eq_true, if_false, S]
          · have : lcp (i + 66 - b) (ks.drop b) (ks.drop (j + b - i)) = 0 := by
              by_cases h66 : i + 66 - b = 0
              · rw [h66]; rfl
              · have : ks.drop b = [] := List.drop_eq_nil_of_le (by lia)
                rw [this]
                cases i + 66 - b <;> rfl
            rw [this] at h3
            rw [← h3]; rfl
      · refine ⟨by lia, by lia, ?_⟩
        rw [show i + 66 - i = 66 by lia, show j + i - i = j by lia]
    · simp (disch := lia) only [mSeq, mRet, mBin, mLoc, List.getElem?_cons_succ, List.getElem?_cons_zero, R_bind_ok, bin_sub, mNext, S]
      rw [show ((i + lcp 66 (ks.drop i) (ks.drop j) : Nat) : Int) - i = (lcp 66 (ks.drop i) (ks.drop j) : Nat) by lia]
  simp (disch := lia) only [f_match_at, fCall, fRet, fBeg, List.length_cons, List.length_nil, Nat.reduceAdd, Bool.false_eq_true, flats, V.flat, Bool.and_self, or_true, and_self, List.map_cons, List.map_nil, List.replicate, List.cons_append, List.nil_append, if_false, List.append_nil, key _ rfl, deref, retV, deref1, R_bind_ok, if_true]
end Mine
end
section
/-! text A2 -/
set_option Elab.async false
set_option autoImplicit false
set_option linter.unusedVariables false
set_option linter.unusedSimpArgs false
namespace Mine
/-! found_match -/
noncomputable def DOK (f : Int → Option Int) (i : Nat) : Prop := ∀ y b, f y = some b → 0 ≤ b ∧ b < i
noncomputable def upd (f : Int → Option Int) (k v : Int) : Int → Option Int := fun y => if y = k then some v else f y
noncomputable def fm (ks : List Int) (i : Nat) (f : Int → Option Int) : (Nat × Nat) × (Int → Option Int) :=
  if ks.length < i + 3 then ((0, 0), f) else
    (match f (hashI ks i) with
      | none => (0, 0)
      | some b => if 1024 ≤ i - b.toNat then (0, 0) else if 3 ≤ lcp 66 (ks.drop i) (ks.drop b.toNat) then (lcp 66 (ks.drop i) (ks.drop b.toNat), i - b.toNat) else (0, 0), upd f (hashI ks i) i)
set_option maxHeartbeats 2000000 in
theorem a_found_match {ks : List Int} {i n : Nat} {f : Int → Option Int} (hk : OB ks) (hl : ks.length ≤ 1048576) (hi : i ≤ ks.length) (hf : DOK f i) (hn : n ≤ 1000000) :
    ∃ n', n' ≤ n + 1 ∧ ∀ (l : List (Option V)) (fs : List Int), f_found_match [.bytes ks, .int i, .ref 1] ⟨l, [.barr fs, .dict f n]⟩ = .ok (.tup [.int (fm ks i f).1.1, .int (fm ks i f).1.2]) ⟨l, [.barr fs, .dict (fm ks i f).2 n']⟩ := by
  unfold fm
  by_cases h3 : ks.length < i + 3
  · refine ⟨n, by lia, fun l fs => ?_⟩
    rw [if_pos h3]
    have h3' : (ks.length : Int) < (i : Int) + 3 := by lia
    simp (disch := omega) only [f_found_match, fCall, fRet, fBeg, List.length_cons, List.length_nil, Nat.reduceAdd, flats, V.flat, Bool.and_true, Bool.true_and, Bool.false_eq_true, true_or, and_self, d_found_match, mSeq, mIfS, mTruth, mCmp, mBin, mLoc, List.map_cons, List.map_nil, List.replicate, List.cons_append, List.nil_append, List.getElem?_cons_succ, List.getElem?_cons_zero, if_true, List.append_nil, mInt, R_bind_ok, bin_add, mCall, mCons, mNil, cmpV, eqV, neV, ordV, isV, isNotV, len_bytes, h3', decide_true, truthV, mRet, mTup, Nat.reduceLeDiff, mNext, mAsg, mMeth, isDictC, mAsgSub, mOr, mV, mIf, deref, retV, deref1, derefs, Option.map_some, List.take_succ_cons, List.take_nil, List.all_cons, Cell.flat, List.all_nil, Bool.and_self]
    rfl
  · refine ⟨n + 1, by lia, fun l fs => ?_⟩
    rw [if_neg h3]
    have h3' : ¬ (ks.length : Int) < (i : Int) + 3 := by lia
    have hh := a_hash_at (ks := ks) (i := i) hk hl (by lia) (by lia) (st := ⟨[some (.bytes ks), some (.int i), some (.ref 1), none, none, none], [.barr fs, .dict f n]⟩)
    cases hfm : f (hashI ks i) with
    | none =>
      simp (disch := omega) only [f_found_match, fCall, fRet, fBeg, List.length_cons, List.length_nil, Nat.reduceAdd, flats, V.flat, Bool.and_true, Bool.true_and, Bool.false_eq_true, true_or, and_self, d_found_match, mSeq, mIfS, mTruth, mCmp, mBin, mLoc, List.map_cons, List.map_nil, List.replicate, List.cons_append, List.nil_append, List.getElem?_cons_succ, List.getElem?_cons_zero, if_true, List.append_nil, mInt, R_bind_ok, bin_add, mCall, mCons, mNil, cmpV, eqV, neV, ordV, isV, isNotV, len_bytes, h3', decide_false, truthV, mRet, mTup, Nat.reduceLeDiff, mNext, if_false, mAsg, mMeth, isDictC, mAsgSub, mOr, mV, mIf, hh, List.set_cons_succ, List.set_cons_zero, get_dict, hfm, set_dict, deref, retV, deref1, derefs, Option.map_some, List.take_succ_cons, List.take_nil, List.all_cons, Cell.flat, List.all_nil, Bool.and_self]
      rfl
    | some b =>
      obtain ⟨hb0, hb1⟩ := hf _ _ hfm
      obtain ⟨b', rfl⟩ : ∃ b' : Nat, b = b' := ⟨b.toNat, by lia⟩
      simp only [Int.toNat_natCast]
      by_cases h4 : 1024 ≤ i - b'
      · have h4' : (1024 : Int) ≤ (i : Int) - b' := by lia
        simp (disch := omega) only [f_found_match, fCall, fRet, fBeg, List.length_cons, List.length_nil, Nat.reduceAdd, flats, V.flat, Bool.and_true, Bool.true_and, Bool.false_eq_true, true_or, and_self, d_found_match, mSeq, mIfS, mTruth, mCmp, mBin, mLoc, List.map_cons, List.map_nil, List.replicate, List.cons_append, List.nil_append, List.getElem?_cons_succ, List.getElem?_cons_zero, if_true, List.append_nil, mInt, R_bind_ok, bin_add, mCall, mCons, mNil, cmpV, eqV, neV, ordV, isV, isNotV, len_bytes, h3', decide_false, truthV, mRet, mTup, Nat.reduceLeDiff, mNext, if_false, mAsg, mMeth, isDictC, mAsgSub, mOr, mV, mIf, hh, List.set_cons_succ, List.set_cons_zero, get_dict, hfm, set_dict, bin_sub, h4', decide_true, deref, retV, deref1, derefs, Option.map_some, List.take_succ_cons, List.take_nil, List.all_cons, Cell.flat, List.all_nil, Bool.and_self, h4]
        rfl
      · have h4' : ¬ (1024 : Int) ≤ (i : Int) - b' := by lia
        have hm := fun st => a_match_at (ks := ks) (i := i) (j := b') (st := st) hl (by lia) hi
        by_cases h5 : 3 ≤ lcp 66 (ks.drop i) (ks.drop b')
        · have h5' : (3 : Int) ≤ (lcp 66 (ks.drop i) (ks.drop b') : Nat) := by lia
          simp (disch := omega) only [f_found_match, fCall, fRet, fBeg, List.length_cons, List.length_nil, Nat.reduceAdd, flats, V.flat, Bool.and_true, Bool.true_and, Bool.false_eq_true, true_or, and_self, d_found_match, mSeq, mIfS, mTruth, mCmp, mBin, mLoc, List.map_cons, List.map_nil, List.replicate, List.cons_append, List.nil_append, List.getElem?_cons_succ, List.getElem?_cons_zero, if_true, List.append_nil, mInt, R_bind_ok, bin_add, mCall, mCons, mNil, cmpV, eqV, neV, ordV, isV, isNotV, len_bytes, h3', decide_false, truthV, mRet, mTup, Nat.reduceLeDiff, mNext, if_false, mAsg, mMeth, isDictC, mAsgSub, mOr, mV, mIf, hh, List.set_cons_succ, List.set_cons_zero, get_dict, hfm, set_dict, bin_sub, h4', hm, h5', decide_true, deref, retV, deref1, derefs, Option.map_some, List.take_succ_cons, List.take_nil, List.all_cons, Cell.flat, List.all_nil, Bool.and_self, h4, h5]
          rw [show ((i - b' : Nat) : Int) = (i : Int) - b' by lia]
          rfl
        · have h5' : ¬ (3 : Int) ≤ (lcp 66 (ks.drop i) (ks.drop b') : Nat) := by lia
          simp (disch := omega) only [f_found_match, fCall, fRet, fBeg, List.length_cons, List.length_nil, Nat.reduceAdd, flats, V.flat, Bool.and_true, Bool.true_and, Bool.false_eq_true, true_or, and_self, d_found_match, mSeq, mIfS, mTruth, mCmp, mBin, mLoc, List.map_cons, List.map_nil, List.replicate, List.cons_append, List.nil_append, List.getElem?_cons_succ, List.getElem?_cons_zero, if_true, List.append_nil, mInt, R_bind_ok, bin_add, mCall, mCons, mNil, cmpV, eqV, neV, ordV, isV, isNotV, len_bytes, h3', decide_false, truthV, mRet, mTup, Nat.reduceLeDiff, mNext, if_false, mAsg, mMeth, isDictC, mAsgSub, mOr, mV, mIf, hh, List.set_cons_succ, List.set_cons_zero, get_dict, hfm, set_dict, bin_sub, h4', hm, h5', deref, retV, deref1, derefs, Option.map_some, List.take_succ_cons, List.take_nil, List.all_cons, Cell.flat, List.all_nil, Bool.and_self, h4, h5]
          rfl
/-! match_octets -/
theorem intsOf_map : ∀ ns : List Int, intsOf (ns.map .int) = some ns
  | [] => rfl
  | n :: ns => by simp only [List.map_cons, intsOf, intsOf_map ns, Option.map_some]
theorem bytes_ints {ns : List Int} {st : St} (h : OB ns) (hl : ns.length ≤ 1048576) : fBytes [.lst (ns.map .int)] st = .ok (.bytes ns) st := by
  simp only [fBytes, listOf, intsOf_map]
  refine if_pos ⟨?_, hl⟩
  unfold octs
  rw [List.all_eq_true]
  intro x hx
  exact decide_eq_true (h x hx)
theorem bytes_two {a b : Int} {st : St} (h : 0 ≤ a ∧ a < 256 ∧ 0 ≤ b ∧ b < 256) : fBytes [.lst [.int a, .int b]] st = .ok (.bytes [a, b]) st :=
  bytes_ints (ns := [a, b]) (fun x hx => by
    rcases List.mem_cons.mp hx with rfl | hx
    · lia
    · rw [List.mem_singleton.mp hx]; lia) (by simp)
theorem bytes_one {a : Int} {st : St} (h : 0 ≤ a ∧ a < 256) : fBytes [.lst [.int a]] st = .ok (.bytes [a]) st :=
  bytes_ints (ns := [a]) (fun x hx => by rw [List.mem_singleton.mp hx]; lia) (by simp)
theorem a_match_octets {m o : Int} {st : St} (h : 3 ≤ m ∧ m ≤ 66 ∧ 0 < o ∧ o < 1024) : f_match_octets [.int m, .int o] st = .ok (.bytes [(m - 3) * 4 + o / 256, o % 256]) st := by
  have e1 : (2 : Int) ^ Int.toNat 2 = 4 := rfl
  have e2 : (2 : Int) ^ Int.toNat 8 = 256 := rfl
  simp (disch := omega) only [f_match_octets, fCall, fRet, fBeg, List.length_cons, List.length_nil, Nat.reduceAdd, Bool.false_eq_true, flats, V.flat, Bool.and_self, or_true, and_self, d_match_octets, mSeq, mRet, mCall, mCons, mLst, mBin, mLoc, List.map_cons, List.map_nil, List.replicate, List.append_nil, List.getElem?_cons_zero, if_false, mInt, R_bind_ok, bin_sub, bin_shl, e1, List.getElem?_cons_succ, bin_shr, e2, bin_add, mNil, bin_mod, Nat.reduceLeDiff, if_true, bytes_two, mNext, deref, retV, deref1]
end Mine
end
section
/-! text A3 -/
set_option Elab.async false
set_option autoImplicit false
set_option linter.unusedVariables false
set_option linter.unusedSimpArgs false
set_option genSizeOf false
set_option genInjectivity false
namespace Mine
/-! chunks: a thing's octets, one of its own or two of a match -/
theorem lcp_le : ∀ (k : Nat) (xs ys : List Int), lcp k xs ys ≤ k ∧ lcp k xs ys ≤ xs.length
  | 0, _, _ => by simp [lcp]
  | k + 1, [], _ => by simp [lcp]
  | k + 1, x :: xs, [] => by simp [lcp]
  | k + 1, x :: xs, y :: ys => by
    have := lcp_le k xs ys
    simp only [lcp, List.length_cons]
    split <;> lia
theorem fm_ok {ks : List Int} {i : Nat} {f : Int → Option Int} (hf : DOK f i) (hi : i ≤ ks.length) :
    ((fm ks i f).1 = (0, 0) ∨ (3 ≤ (fm ks i f).1.1 ∧ (fm ks i f).1.1 ≤ 66 ∧ i + (fm ks i f).1.1 ≤ ks.length ∧ 0 < (fm ks i f).1.2 ∧ (fm ks i f).1.2 < 1024 ∧ (fm ks i f).1.2 ≤ i ∧ (fm ks i f).1.1 = lcp 66 (ks.drop i) (ks.drop (i - (fm ks i f).1.2)))) ∧ DOK (fm ks i f).2 (i + 1) := by
  unfold fm
  by_cases h3 : ks.length < i + 3
  · rw [if_pos h3]
    exact ⟨.inl rfl, fun y b e => by have := hf y b e; lia⟩
  · rw [if_neg h3]
    refine ⟨?_, ?_⟩
    · cases hfm : f (hashI ks i) with
      | none => exact .inl rfl
      | some b =>
        obtain ⟨hb0, hb1⟩ := hf _ _ hfm
        dsimp only
        by_cases h4 : 1024 ≤ i - b.toNat
        · rw [if_pos h4]; exact .inl rfl
        · rw [if_neg h4]
          by_cases h5 : 3 ≤ lcp 66 (ks.drop i) (ks.drop b.toNat)
          · rw [if_pos h5]
            have h6 := lcp_le 66 (ks.drop i) (ks.drop b.toNat)
            rw [List.length_drop] at h6
            refine .inr ⟨h5, h6.1, by dsimp only; lia, by dsimp only; lia, by dsimp only; lia, by dsimp only; lia, ?_⟩
            dsimp only
            rw [show i - (i - b.toNat) = b.toNat by lia]
          · rw [if_neg h5]; exact .inl rfl
    · intro y b e
      simp only [upd] at e
      split at e
      · cases e; lia
      · have := hf y b e; lia
noncomputable def chunk (ks : List Int) (i : Nat) (p : Nat × Nat) : List Int := if 0 < p.1 then [((p.1 : Int) - 3) * 4 + (p.2 : Int) / 256, (p.2 : Int) % 256] else [gI ks i]
noncomputable def adv (p : Nat × Nat) : Nat := if 0 < p.1 then p.1 else 1
/-- the chunks of the octets from a place on -/
noncomputable def chunks (ks : List Int) : Nat → Nat → (Int → Option Int) → List (List Int)
  | 0, _, _ => []
  | k + 1, i, f => if i < ks.length then chunk ks i (fm ks i f).1 :: chunks ks k (i + adv (fm ks i f).1) (fm ks i f).2 else []
noncomputable def mapOf : Nat → List (List Int) → Int
  | _, [] => 0
  | k, c :: cs => (if c.length = 2 then 2 ^ k else 0) + mapOf (k + 1) cs
noncomputable def grp (cs : List (List Int)) : List Int := mapOf 0 cs :: cs.flatten
/-- chunks in rows of eight, each behind its octet of marks -/
noncomputable def mapd : Nat → List (List Int) → List Int
  | 0, _ => []
  | k + 1, [] => []
  | k + 1, c :: cs => grp ((c :: cs).take 8) ++ mapd k ((c :: cs).drop 8)
/-- what stands so far: whole rows, and one that is not whole -/
noncomputable def part (E : List Int) (cur : List (List Int)) : List Int := if cur = [] then E else E ++ grp cur
structure PS where
  E : List Int
  cur : List (List Int)
  f : Int → Option Int
  n : Nat
  i : Nat
  here : Int
  m : Option V
  o : Option V
noncomputable def PS.st (ks : List Int) (most : Int) (x : PS) : St := ⟨[some (.bytes ks), some (.int most), some (.ref 0), some (.ref 1), some (.int (x.i : Int)), some (.int (x.cur.length : Int)), some (.int x.here), x.m, x.o], [.barr (part x.E x.cur), .dict x.f x.n]⟩
theorem mapOf_app : ∀ (k : Nat) (cs : List (List Int)) (c : List Int), mapOf k (cs ++ [c]) = mapOf k cs + (if c.length = 2 then 2 ^ (k + cs.length) else 0)
  | k, [], c => by simp [mapOf]
  | k, d :: cs, c => by
    simp only [List.cons_append, mapOf, mapOf_app (k + 1) cs c, List.length_cons]
    rw [show k + 1 + cs.length = k + (cs.length + 1) by lia]
    lia
theorem mapOf_le : ∀ (k : Nat) (cs : List (List Int)), 0 ≤ mapOf k cs ∧ mapOf k cs + 2 ^ k ≤ 2 ^ (k + cs.length)
  | k, [] => by simp [mapOf]
  | k, c :: cs => by
    have h := mapOf_le (k + 1) cs
    have e : (2 : Int) ^ (k + 1) = 2 * 2 ^ k := by rw [Int.pow_succ]; lia
    have p : (0 : Int) < 2 ^ k := Int.pow_pos (by decide)
    rw [e] at h
    simp only [mapOf, List.length_cons]
    rw [show k + (cs.length + 1) = k + 1 + cs.length by lia]
    split <;> lia
end Mine
end
section
/-! text A4 -/
set_option Elab.async false
set_option autoImplicit false
set_option linter.unusedVariables false
set_option linter.unusedSimpArgs false
namespace Mine
/-! rows of eight -/
theorem mapd_fuel : ∀ (n m : Nat) (cs : List (List Int)), cs.length ≤ n → cs.length ≤ m → mapd n cs = mapd m cs
  | n, m, [], _, _ => by cases n <;> cases m <;> rfl
  | 0, _, c :: cs, h, _ => by simp at h
  | n + 1, 0, c :: cs, _, h => by simp at h
  | n + 1, m + 1, c :: cs, h1, h2 => by
    simp only [mapd]
    rw [mapd_fuel n m _ (by simp only [List.length_drop, List.length_cons] at *; lia) (by simp only [List.length_drop, List.length_cons] at *; lia)]
theorem mapd_full {n : Nat} {cur rest : List (List Int)} (h : cur.length = 8) : mapd (n + 1) (cur ++ rest) = grp cur ++ mapd n rest := by
  cases cur with
  | nil => simp at h
  | cons c cs =>
    rw [List.cons_append]
    simp only [mapd]
    rw [← List.cons_append, List.take_left' h, List.drop_left' h]
theorem mapd_short {n : Nat} {cur : List (List Int)} (h : cur.length ≤ 8) (hn : cur.length ≤ n) (h0 : cur ≠ []) : mapd n cur = grp cur := by
  cases cur with
  | nil => exact absurd rfl h0
  | cons c cs =>
    cases n with
    | zero => simp at hn
    | succ n =>
      simp only [mapd]
      rw [List.take_of_length_le h, List.drop_eq_nil_of_le h]
      cases n <;> simp [mapd]
theorem mapd_len : ∀ (n : Nat) (cs : List (List Int)), cs.length ≤ n → cs ≠ [] → 1 + cs.flatten.length ≤ (mapd n cs).length
  | 0, [], _, h => absurd rfl h
  | 0, c :: cs, h, _ => by simp at h
  | n + 1, [], _, h => absurd rfl h
  | n + 1, c :: cs, h, _ => by
    simp only [mapd, List.length_append]
    have e : (c :: cs).flatten.length = ((c :: cs).take 8).flatten.length + ((c :: cs).drop 8).flatten.length := by
      rw [← List.length_append, ← List.flatten_append, List.take_append_drop]
    have g : (grp ((c :: cs).take 8)).length = 1 + ((c :: cs).take 8).flatten.length := by simp [grp]; lia
    by_cases hd : (c :: cs).drop 8 = []
    · rw [e, g, hd]; simp
    · have := mapd_len n ((c :: cs).drop 8) (by simp only [List.length_drop, List.length_cons] at *; lia) hd
      lia
theorem adv_pos (p : Nat × Nat) : 0 < adv p := by unfold adv; split <;> lia
theorem chunks_fuel (ks : List Int) : ∀ (a b i : Nat) (f : Int → Option Int), ks.length ≤ i + a → ks.length ≤ i + b → chunks ks a i f = chunks ks b i f
  | 0, 0, _, _, _, _ => rfl
  | 0, b + 1, i, f, h, _ => by simp only [chunks]; rw [if_neg (by lia)]
  | a + 1, 0, i, f, _, h => by simp only [chunks]; rw [if_neg (by lia)]
  | a + 1, b + 1, i, f, h1, h2 => by
    simp only [chunks]
    have := adv_pos (fm ks i f).1
    rw [chunks_fuel ks a b _ _ (by lia) (by lia)]
theorem adv_le {ks : List Int} {i : Nat} {f : Int → Option Int} (hf : DOK f i) (h : i < ks.length) : i + adv (fm ks i f).1 ≤ ks.length ∧ DOK (fm ks i f).2 (i + adv (fm ks i f).1) := by
  obtain ⟨q1, q2⟩ := fm_ok hf (Nat.le_of_lt h)
  have ha := adv_pos (fm ks i f).1
  refine ⟨?_, fun y b e => by have := q2 y b e; lia⟩
  unfold adv
  split
  · rcases q1 with q1 | q1
    · have : (fm ks i f).1.1 = 0 := by rw [q1]
      lia
    · lia
  · lia
theorem chunks_len (ks : List Int) : ∀ (a i : Nat) (f : Int → Option Int), i ≤ ks.length → DOK f i → (chunks ks a i f).length ≤ ks.length - i
  | 0, _, _, _, _ => by simp [chunks]
  | a + 1, i, f, hi, hf => by
    simp only [chunks]
    split
    · rename_i h
      have ha := adv_pos (fm ks i f).1
      obtain ⟨hle, hD⟩ := adv_le hf h
      have := chunks_len ks a _ _ hle hD
      rw [List.length_cons]; lia
    · simp
end Mine
end
section
/-! text A5 -/
set_option Elab.async false
set_option autoImplicit false
set_option linter.unusedVariables false
set_option linter.unusedSimpArgs false
namespace Mine
/-! lzjb_pack: a turn of its loop -/
noncomputable def pBody : Mo FV := (mSeq (mIfS (mTruth (mCmp .Eq (mLoc 5) (mInt 0))) (mSeq (mAsg 6 (mCall fLen (mCons (mLoc 2) (mNil)))) (mSeq (mDrop (mMeth fBAppend isBarrC (mLoc 2) (mCons (mInt 0) (mNil)))) (mNext))) (mNext)) (mSeq (mAsgT [.loc 7, .loc 8] (mCall f_found_match (mCons (mLoc 0) (mCons (mLoc 4) (mCons (mLoc 3) (mNil)))))) (mSeq (mIfS (mTruth (mCmp .Gt (mLoc 7) (mInt 0))) (mSeq (mAsgSub (mLoc 2) (mLoc 6) (mBin .Add (mSub (mLoc 2) (mLoc 6)) (mBin .LShift (mInt 1) (mLoc 5)))) (mSeq (mDrop (mMeth fBExtend isBarrC (mLoc 2) (mCons (mCall f_match_octets (mCons (mLoc 7) (mCons (mLoc 8) (mNil)))) (mNil)))) (mSeq (mAsg 4 (mBin .Add (mLoc 4) (mLoc 7))) (mNext)))) (mSeq (mDrop (mMeth fBAppend isBarrC (mLoc 2) (mCons (mSub (mLoc 0) (mLoc 4)) (mNil)))) (mSeq (mAsg 4 (mBin .Add (mLoc 4) (mInt 1))) (mNext)))) (mSeq (mAsg 5 (mBin .Mod (mBin .Add (mLoc 5) (mInt 1)) (mInt 8))) (mSeq (mIfS (mTruth (mCmp .Gt (mCall fLen (mCons (mLoc 2) (mNil))) (mLoc 1))) (mSeq (mRet (mV .none)) (mNext)) (mNext)) (mNext))))))
noncomputable def pst (ks : List Int) (most : Int) (fs : List Int) (f : Int → Option Int) (n i t : Nat) (h m o : Option V) : St := ⟨[some (.bytes ks), some (.int most), some (.ref 0), some (.ref 1), some (.int (i : Int)), some (.int (t : Int)), h, m, o], [.barr fs, .dict f n]⟩
/-- the first part of a turn: a new octet of marks -/
theorem p_head {ks : List Int} {most : Int} {E : List Int} {cur : List (List Int)} {f : Int → Option Int} {n i : Nat} {h m o : Option V} (hh : cur ≠ [] → h = some (.int E.length)) (hE : (part E cur).length < 1048576) :
    (mIfS (mTruth (mCmp .Eq (mLoc 5) (mInt 0))) (mSeq (mAsg 6 (mCall fLen (mCons (mLoc 2) (mNil)))) (mSeq (mDrop (mMeth fBAppend isBarrC (mLoc 2) (mCons (mInt 0) (mNil)))) (mNext))) (mNext)) (pst ks most (part E cur) f n i cur.length h m o) =
      .ok .next (pst ks most (E ++ grp cur) f n i cur.length (some (.int E.length)) m o) := by
  by_cases hc : cur = []
  · subst hc
    have e : part E [] = E := rfl
    rw [e] at hE ⊢
    have e0 : (((([] : List (List Int)).length : Nat) : Int) == 0) = true := rfl
    simp (disch := lia) only [mIfS, mTruth, mCmp, mLoc, pst, List.length_nil, List.getElem?_cons_succ, List.getElem?_cons_zero, mInt, cmpV, eqV, neV, ordV, isV, isNotV, R_bind_ok, truthV, mSeq, mAsg, mCall, mCons, mNil, mDrop, mMeth, isBarrC, mNext, len_barr, List.set_cons_succ, List.set_cons_zero, bapp_ok, if_true]
    rfl
  · have e0 : (((cur.length : Nat) : Int) == 0) = false := by
      have : cur.length ≠ 0 := fun z => hc (List.length_eq_zero_iff.mp z)
      exact beq_false_of_ne (by lia)
    have e : part E cur = E ++ grp cur := if_neg hc
    rw [e, hh hc]
    simp (disch := lia) only [mIfS, mTruth, mCmp, mLoc, pst, List.getElem?_cons_succ, List.getElem?_cons_zero, mInt, cmpV, eqV, neV, ordV, isV, isNotV, R_bind_ok, e0, truthV, mSeq, mAsg, mCall, mCons, mNil, mDrop, mMeth, isBarrC, mNext, Bool.false_eq_true, if_false]
noncomputable def pMid : Mo FV := (mIfS (mTruth (mCmp .Gt (mLoc 7) (mInt 0))) (mSeq (mAsgSub (mLoc 2) (mLoc 6) (mBin .Add (mSub (mLoc 2) (mLoc 6)) (mBin .LShift (mInt 1) (mLoc 5)))) (mSeq (mDrop (mMeth fBExtend isBarrC (mLoc 2) (mCons (mCall f_match_octets (mCons (mLoc 7) (mCons (mLoc 8) (mNil)))) (mNil)))) (mSeq (mAsg 4 (mBin .Add (mLoc 4) (mLoc 7))) (mNext)))) (mSeq (mDrop (mMeth fBAppend isBarrC (mLoc 2) (mCons (mSub (mLoc 0) (mLoc 4)) (mNil)))) (mSeq (mAsg 4 (mBin .Add (mLoc 4) (mInt 1))) (mNext))))
noncomputable def nextF (ks : List Int) (i e t : Nat) (x : Int) (p : Nat × Nat) (F : List Int) : List Int := (if 0 < p.1 then F.set e (x + 2 ^ t) else F) ++ chunk ks i p
theorem p_mid {ks F : List Int} {most x : Int} {f : Int → Option Int} {n i t e a b : Nat} (hk : OB ks) (hl : ks.length ≤ 2000) (hi : i < ks.length) (hF : F.length ≤ 100000) (he : e < F.length) (hx : gI F e = x) (hx0 : 0 ≤ x) (hx1 : x + 2 ^ t < 256)
    (ht : t < 8) (hp : a = 0 ∨ (3 ≤ a ∧ a ≤ 66 ∧ 0 < b ∧ b < 1024)) :
    pMid (pst ks most F f n i t (some (.int e)) (some (.int a)) (some (.int b))) = .ok .next (pst ks most (nextF ks i e t x (a, b) F) f n (i + adv (a, b)) t (some (.int e)) (some (.int a)) (some (.int b))) := by
  have hg := gI_ob hk i
  have h2 : (1 : Int) * 2 ^ (t : Int).toNat = 2 ^ t := by rw [Int.toNat_natCast, Int.one_mul]
  have h3 : (0 : Int) < 2 ^ t := Int.pow_pos (by decide)
  by_cases ha : 0 < a
  · have ha' : (0 : Int) < (a : Int) := by lia
    have hm := fun st => a_match_octets (m := a) (o := b) (st := st) (by lia)
    have hs : (F.set e (x + 2 ^ t)).length = F.length := by simp
    have hs2 : ([((a : Int) - 3) * 4 + (b : Int) / 256, (b : Int) % 256] : List Int).length = 2 := rfl
    simp (disch := lia) only [pMid, mIfS, mTruth, mCmp, mLoc, pst, List.getElem?_cons_succ, List.getElem?_cons_zero, mInt, cmpV, eqV, neV, ordV, isV, isNotV, R_bind_ok, ha', decide_true, truthV, mSeq, mAsgSub, mBin, mSub, mDrop, mMeth, isBarrC, mCons, mCall, mNil, mAsg, mNext, sub_barr, hx, bin_shl, Int.toNat_natCast, Int.one_mul, bin_add, set_barr, hm, bext_ok, if_true, List.set_cons_succ, List.set_cons_zero, sub_bytes, bapp_ok]
    simp only [nextF, chunk, adv, ha, if_true, Int.toNat_natCast]
    rfl
  · have ha' : ¬ (0 : Int) < (a : Int) := by lia
    simp (disch := lia) only [pMid, mIfS, mTruth, mCmp, mLoc, pst, List.getElem?_cons_succ, List.getElem?_cons_zero, mInt, cmpV, eqV, neV, ordV, isV, isNotV, R_bind_ok, ha', decide_false, truthV, mSeq, mAsgSub, mBin, mSub, mDrop, mMeth, isBarrC, mCons, mCall, mNil, mAsg, mNext, Bool.false_eq_true, sub_barr, bin_shl, bin_add, set_barr, if_true, sub_bytes, bapp_ok, List.set_cons_succ, List.set_cons_zero, if_false]
    simp only [nextF, chunk, adv, ha, if_false]
    rfl
noncomputable def pTail : Mo FV := (mSeq (mAsg 5 (mBin .Mod (mBin .Add (mLoc 5) (mInt 1)) (mInt 8))) (mSeq (mIfS (mTruth (mCmp .Gt (mCall fLen (mCons (mLoc 2) (mNil))) (mLoc 1))) (mSeq (mRet (mV .none)) (mNext)) (mNext)) (mNext)))
theorem p_tail {ks F : List Int} {most : Int} {f : Int → Option Int} {n i t : Nat} {h m o : Option V} (hF : F.length ≤ 1000000) :
    (F.length ≤ most ∧ pTail (pst ks most F f n i t h m o) = .ok .next (pst ks most F f n i ((t + 1) % 8) h m o)) ∨ (most < F.length ∧ ∃ st', pTail (pst ks most F f n i t h m o) = .ok (.ret .none) st') := by
  by_cases hm : most < F.length
  · right
    refine ⟨hm, pst ks most F f n i ((t + 1) % 8) h m o, ?_⟩
    simp (disch := lia) only [pTail, mSeq, mAsg, mBin, mLoc, pst, List.getElem?_cons_succ, List.getElem?_cons_zero, mInt, R_bind_ok, bin_add, bin_mod, List.set_cons_succ, List.set_cons_zero, mIfS, mTruth, mCmp, mCall, mCons, mNil, cmpV, eqV, neV, ordV, isV, isNotV, mRet, mV, mNext, len_barr, hm, decide_true, truthV, if_true]
    rfl
  · left
    refine ⟨by lia, ?_⟩
    simp (disch := lia) only [pTail, mSeq, mAsg, mBin, mLoc, pst, List.getElem?_cons_succ, List.getElem?_cons_zero, mInt, R_bind_ok, bin_add, bin_mod, List.set_cons_succ, List.set_cons_zero, mIfS, mTruth, mCmp, mCall, mCons, mNil, cmpV, eqV, neV, ordV, isV, isNotV, mRet, mV, mNext, len_barr, hm, decide_false, truthV, Bool.false_eq_true, if_false]
    rfl
end Mine
end
section
/-! text A6 -/
set_option Elab.async false
set_option autoImplicit false
set_option linter.unusedVariables false
set_option linter.unusedSimpArgs false
set_option genSizeOf false
set_option genInjectivity false
namespace Mine
theorem gI_mid {E r : List Int} {x : Int} : gI (E ++ x :: r) (E.length : Nat) = x := by
  unfold gI
  simp [List.getD_eq_getElem?_getD]
theorem chunk_len (ks : List Int) (i : Nat) (p : Nat × Nat) : (chunk ks i p).length = if 0 < p.1 then 2 else 1 := by
  unfold chunk; split <;> rfl
theorem next_eq {ks E : List Int} {cur : List (List Int)} {i : Nat} {p : Nat × Nat} : nextF ks i E.length cur.length (mapOf 0 cur) p (E ++ grp cur) = E ++ grp (cur ++ [chunk ks i p]) := by
  have hc := chunk_len ks i p
  unfold nextF grp
  rw [mapOf_app, hc, List.flatten_append, Nat.zero_add]
  by_cases h : 0 < p.1
  · simp [h]
  · simp [h]
theorem grp_len (cs : List (List Int)) : (grp cs).length = 1 + cs.flatten.length := by simp [grp]; lia
structure PX where
  E : List Int
  cur : List (List Int)
  f : Int → Option Int
  n : Nat
  i : Nat
  h : Option V
  m : Option V
  o : Option V
noncomputable def PX.st (ks : List Int) (most : Int) (x : PX) : St := pst ks most (part x.E x.cur) x.f x.n x.i x.cur.length x.h x.m x.o
noncomputable def pT : Mo Bool := (mTruth (mCmp .Lt (mLoc 4) (mCall fLen (mCons (mLoc 0) (mNil)))))
theorem p_turn {ks : List Int} {most : Int} {x : PX} (hk : OB ks) (hl : ks.length ≤ 2000) (hi : x.i < ks.length) (hc : x.cur.length < 8) (hf : DOK x.f x.i) (hn : x.n ≤ x.i) (hh : x.cur ≠ [] → x.h = some (.int x.E.length)) (hp : (part x.E x.cur).length ≤ 3 * x.i) :
    let c := chunk ks x.i (fm ks x.i x.f).1
    let F := x.E ++ grp (x.cur ++ [c])
    F.length ≤ 3 * (x.i + 1) ∧ (((F.length : Int) ≤ most ∧ ∃ n' m' o', n' ≤ x.n + 1 ∧ pBody (x.st ks most) = .ok .next (pst ks most F (fm ks x.i x.f).2 n' (x.i + adv (fm ks x.i x.f).1) ((x.cur.length + 1) % 8) (some (.int x.E.length)) m' o')) ∨
      (most < F.length ∧ ∃ st', pBody (x.st ks most) = .ok (.ret .none) st')) := by
  intro c F
  obtain ⟨E, cur, f, n, i, h, m, o⟩ := x
  dsimp only at *
  have hF0 : (E ++ grp cur).length ≤ 3 * i + 1 := by
    unfold part at hp
    split at hp
    · rename_i z; subst z; simp [grp] at *; lia
    · lia
  have hFl : F.length ≤ 3 * (i + 1) := by
    have h1 : F.length = (E ++ grp cur).length + c.length := by
      simp only [F, List.length_append, grp_len, List.flatten_append, List.flatten_cons, List.flatten_nil, List.append_nil]; lia
    have h2 : c.length ≤ 2 := by simp only [c]; rw [chunk_len]; split <;> lia
    lia
  refine ⟨hFl, ?_⟩
  obtain ⟨n', hn', hfm⟩ := a_found_match (ks := ks) (i := i) (n := n) (f := f) hk (by lia) (by lia) hf (by lia)
  obtain ⟨q1, q2⟩ := fm_ok hf (Nat.le_of_lt hi)
  have hM := mapOf_le 0 cur
  have h128 : (2 : Int) ^ cur.length ≤ 2 ^ 7 := by
    have h : ∀ k : Nat, k < 8 → (2 : Int) ^ k ≤ 2 ^ 7 := by decide
    exact h _ hc
  rw [Nat.zero_add] at hM
  have hmid := p_mid (ks := ks) (F := E ++ grp cur) (most := most) (x := mapOf 0 cur) (f := (fm ks i f).2) (n := n') (i := i) (t := cur.length) (e := E.length) (a := (fm ks i f).1.1) (b := (fm ks i f).1.2) hk hl hi (by lia)
    (by rw [List.length_append, grp_len]; lia) gI_mid hM.1 (by lia) hc (by
      rcases q1 with q1 | q1
      · left; rw [q1]
      · right; lia)
  have step : pBody (PX.st ks most ⟨E, cur, f, n, i, h, m, o⟩) = pTail (pst ks most F (fm ks i f).2 n' (i + adv (fm ks i f).1) cur.length (some (.int E.length)) (some (.int (fm ks i f).1.1)) (some (.int (fm ks i f).1.2))) := by
    unfold pBody
    refine (seq_next (p_head hh (by lia))).trans ?_
    refine (seq_next (st' := pst ks most (E ++ grp cur) (fm ks i f).2 n' i cur.length (some (.int E.length)) (some (.int (fm ks i f).1.1)) (some (.int (fm ks i f).1.2))) (by simp (disch := lia) only [mAsgT, mCall, mCons, mLoc, pst, List.getElem?_cons_zero, mNil, R_bind_ok, List.getElem?_cons_succ, hfm, List.length_cons, List.length_nil, Nat.reduceAdd, setTGs, setTG, mSet, List.set_cons_succ, List.set_cons_zero, if_true])).trans ?_
    refine (seq_next hmid).trans ?_
    rw [next_eq]
    rfl
  rw [step]
  rcases p_tail (ks := ks) (F := F) (most := most) (f := (fm ks i f).2) (n := n') (i := i + adv (fm ks i f).1) (t := cur.length) (h := some (.int E.length)) (m := some (.int (fm ks i f).1.1)) (o := some (.int (fm ks i f).1.2)) (by lia) with ⟨t1, t2⟩ | ⟨t1, t2⟩
  · exact .inl ⟨t1, n', _, _, hn', t2⟩
  · exact .inr ⟨t1, t2⟩
end Mine
end
section
/-! text A7 -/
set_option Elab.async false
set_option autoImplicit false
set_option linter.unusedVariables false
set_option linter.unusedSimpArgs false
namespace Mine
/-! lzjb_pack -/
noncomputable def packed (ks : List Int) : List Int := mapd ks.length (chunks ks ks.length 0 fun _ => none)
theorem bytesOf_barr {ks : List Int} {l : List (Option V)} {cs : List Cell} (h : ks.length ≤ 1048576) : fBytes [.ref 0] ⟨l, .barr ks :: cs⟩ = .ok (.bytes ks) ⟨l, .barr ks :: cs⟩ := if_pos h
theorem chunks_end {ks : List Int} {k i : Nat} {f : Int → Option Int} (h : ks.length ≤ i) : chunks ks k i f = [] := by
  cases k with
  | zero => rfl
  | succ k => simp only [chunks]; rw [if_neg (by lia)]
theorem part_le {E : List Int} {cur rest : List (List Int)} {n : Nat} (h : (cur ++ rest).length ≤ n) (hc : cur ≠ []) : (E ++ grp cur).length ≤ (E ++ mapd n (cur ++ rest)).length := by
  have := mapd_len n (cur ++ rest) h (by cases cur <;> simp at *)
  rw [List.length_append, List.length_append, grp_len]
  rw [List.flatten_append, List.length_append] at this
  lia
noncomputable def pInv (ks : List Int) (most : Int) (x : PX) : Prop :=
  x.i ≤ ks.length ∧ x.cur.length < 8 ∧ DOK x.f x.i ∧ x.n ≤ x.i ∧ (x.cur ≠ [] → x.h = some (.int x.E.length)) ∧ (part x.E x.cur).length ≤ 3 * x.i ∧ x.E ++ mapd (2 * ks.length + 20) (x.cur ++ chunks ks (ks.length - x.i) x.i x.f) = packed ks ∧ (((part x.E x.cur).length : Int) ≤ most ∨ x.i = 0)
noncomputable def pPost (ks : List Int) (most : Int) (r : R FV) : Prop :=
  (∃ l d, r = .ok .next ⟨some (.bytes ks) :: some (.int most) :: some (.ref 0) :: l, [.barr (packed ks), d]⟩ ∧ (ks = [] ∨ ((packed ks).length : Int) ≤ most)) ∨ (∃ st', r = .ok (.ret .none) st' ∧ ks ≠ [] ∧ most < (packed ks).length)
theorem p_loop {ks : List Int} {most : Int} (hk : OB ks) (hl : ks.length ≤ 2000) (x : PX) (hx : pInv ks most x) : pPost ks most (mWhile pT pBody 5000 (x.st ks most)) := by
  refine w_spec (PX.st ks most) (pInv ks most) (fun x => ks.length - x.i) (pPost ks most) ?_ 5000 x hx (by lia)
  clear hx x
  rintro x ⟨h1, h2, h3, h4, h5, h6, h7, h8⟩
  by_cases hi : x.i < ks.length
  · right
    have hi' : (x.i : Int) < ks.length := by lia
    refine ⟨by simp (disch := lia) only [pT, mTruth, mCmp, mLoc, PX.st, pst, List.getElem?_cons_succ, List.getElem?_cons_zero, mCall, mCons, mNil, R_bind_ok, cmpV, eqV, neV, ordV, isV, isNotV, len_bytes, hi', decide_true, truthV], ?_⟩
    have ht := p_turn (most := most) hk hl hi h2 h3 h4 h5 h6
    obtain ⟨hadv, hD⟩ := adv_le h3 hi
    have hpos := adv_pos (fm ks x.i x.f).1
    have hch : chunks ks (ks.length - x.i) x.i x.f = chunk ks x.i (fm ks x.i x.f).1 :: chunks ks (ks.length - (x.i + adv (fm ks x.i x.f).1)) (x.i + adv (fm ks x.i x.f).1) (fm ks x.i x.f).2 := by
      rw [show ks.length - x.i = (ks.length - x.i - 1) + 1 by lia]
      simp only [chunks]
      rw [if_pos hi]
      congr 1
      exact chunks_fuel ks _ _ _ _ (by lia) (by lia)
    have hrest := chunks_len ks (ks.length - (x.i + adv (fm ks x.i x.f).1)) _ _ hadv hD
    rw [hch, List.append_cons] at h7
    obtain ⟨hF, ht⟩ := ht
    have hle := part_le (E := x.E) (cur := x.cur ++ [chunk ks x.i (fm ks x.i x.f).1]) (rest := chunks ks (ks.length - (x.i + adv (fm ks x.i x.f).1)) (x.i + adv (fm ks x.i x.f).1) (fm ks x.i x.f).2) (n := 2 * ks.length + 20)
      (by simp only [List.length_append, List.length_cons, List.length_nil]; lia) (by simp)
    rw [h7] at hle
    rcases ht with ⟨t1, n', m', o', t2, t3⟩ | ⟨t1, st', t2⟩
    · left
      have hpart : ∀ E cur, part E cur = (if cur = [] then E else E ++ grp cur) := fun _ _ => rfl
      by_cases hc : x.cur.length = 7
      · refine ⟨⟨x.E ++ grp (x.cur ++ [chunk ks x.i (fm ks x.i x.f).1]), [], (fm ks x.i x.f).2, n', x.i + adv (fm ks x.i x.f).1, some (.int x.E.length), m', o'⟩, ?_, ⟨hadv, by simp, hD, by dsimp only; lia, fun z => absurd rfl z, ?_, ?_, ?_⟩, by dsimp only; lia⟩
        · rw [t3, hc]; rfl
        · show (x.E ++ _).length ≤ _; dsimp only; lia
        · dsimp only
          rw [show 2 * ks.length + 20 = (2 * ks.length + 19) + 1 by lia, mapd_full (by simp [hc])] at h7
          rw [← h7, List.nil_append, List.append_assoc]
          congr 2
          exact mapd_fuel _ _ _ (by lia) (by lia)
        · left; exact t1
      · have hne : x.cur ++ [chunk ks x.i (fm ks x.i x.f).1] ≠ [] := by simp
        have hp : part x.E (x.cur ++ [chunk ks x.i (fm ks x.i x.f).1]) = x.E ++ grp (x.cur ++ [chunk ks x.i (fm ks x.i x.f).1]) := if_neg hne
        refine ⟨⟨x.E, x.cur ++ [chunk ks x.i (fm ks x.i x.f).1], (fm ks x.i x.f).2, n', x.i + adv (fm ks x.i x.f).1, some (.int x.E.length), m', o'⟩, ?_, ⟨hadv, by simp; lia, hD, by dsimp only; lia, fun _ => rfl, ?_, h7, ?_⟩, by dsimp only; lia⟩
        · rw [t3]
          show _ = R.ok FV.next (pst ks most (part _ _) _ _ _ (x.cur ++ [_]).length _ _ _)
          rw [hp, List.length_append, List.length_singleton, Nat.mod_eq_of_lt (by lia)]
        · dsimp only; rw [hp]; lia
        · left; dsimp only; rw [hp]; exact t1
    · right; left
      exact ⟨_, st', t2, .inr ⟨st', rfl, (by intro z; rw [z] at hi; simp at hi), by lia⟩⟩
  · left
    have hi' : ¬ (x.i : Int) < ks.length := by lia
    refine ⟨by simp (disch := lia) only [pT, mTruth, mCmp, mLoc, PX.st, pst, List.getElem?_cons_succ, List.getElem?_cons_zero, mCall, mCons, mNil, R_bind_ok, cmpV, eqV, neV, ordV, isV, isNotV, len_bytes, hi', decide_false, truthV], .inl ?_⟩
    rw [chunks_end (by lia), List.append_nil] at h7
    have e : part x.E x.cur = packed ks := by
      rw [← h7]
      unfold part
      split
      · rename_i z; rw [z]; simp [mapd]
      · rename_i z; rw [mapd_short (by lia) (by lia) z]
    refine ⟨_, _, by unfold PX.st; rw [e]; rfl, ?_⟩
    rw [← e]
    rcases h8 with h8 | h8
    · exact .inr h8
    · left; exact List.length_eq_zero_iff.mp (by lia)
end Mine
end
section
/-! text A8 -/
set_option Elab.async false
set_option autoImplicit false
set_option linter.unusedVariables false
set_option linter.unusedSimpArgs false
namespace Mine
theorem packed_len {ks : List Int} (hl : ks.length ≤ 2000) (hk : OB ks) : (packed ks).length ≤ 3 * ks.length := by
  obtain h := p_loop (most := 1000000) hk hl ⟨[], [], fun _ => none, 0, 0, none, none, none⟩ ⟨Nat.zero_le _, by simp, fun y b e => (by cases e), Nat.le_refl _, fun z => absurd rfl z, by simp [part], by
    simp only [List.nil_append]
    exact mapd_fuel _ _ _ (by have := chunks_len ks (ks.length - 0) 0 (fun _ => none) (Nat.zero_le _) (fun y b e => by cases e); lia) (by have := chunks_len ks ks.length 0 (fun _ => none) (Nat.zero_le _) (fun y b e => by cases e); exact Nat.le_trans this (by lia)), .inr rfl⟩
  have hc := chunks_len ks ks.length 0 (fun _ => none) (Nat.zero_le _) (fun y b e => by cases e)
  have key : ∀ (n : Nat) (cs : List (List Int)), (∀ c ∈ cs, c.length ≤ 2) → (mapd n cs).length ≤ 3 * cs.length := by
    intro n
    induction n with
    | zero => intro cs _; simp [mapd]
    | succ n ih =>
      intro cs h
      cases cs with
      | nil => simp [mapd]
      | cons c cs =>
        simp only [mapd, List.length_append, grp_len]
        have h1 := ih ((c :: cs).drop 8) fun d hd => h d (List.mem_of_mem_drop hd)
        have h2 : ∀ l : List (List Int), (∀ c ∈ l, c.length ≤ 2) → l.flatten.length ≤ 2 * l.length := by
          intro l
          induction l with
          | nil => simp
          | cons a l ih =>
            intro h
            have := h a List.mem_cons_self
            have := ih fun c hc => h c (List.mem_cons_of_mem _ hc)
            simp only [List.flatten_cons, List.length_append, List.length_cons]; lia
        have h3 := h2 ((c :: cs).take 8) fun d hd => h d (List.mem_of_mem_take hd)
        have h4 : ((c :: cs).take 8).length + ((c :: cs).drop 8).length = (c :: cs).length := by rw [← List.length_append, List.take_append_drop]
        have h5 : 1 ≤ ((c :: cs).take 8).length := by simp
        lia
  have hcl : ∀ (k i : Nat) (f : Int → Option Int), ∀ c ∈ chunks ks k i f, c.length ≤ 2 := by
    intro k
    induction k with
    | zero => intro i f c hc; cases hc
    | succ k ih =>
      intro i f c hc
      simp only [chunks] at hc
      split at hc
      · rcases List.mem_cons.mp hc with rfl | hc
        · rw [chunk_len]; split <;> lia
        · exact ih _ _ _ hc
      · cases hc
  have := key ks.length _ (hcl ks.length 0 fun _ => none)
  unfold packed
  lia
theorem pack_init {ks : List Int} {most : Int} : (mAsgT [.loc 2, .loc 3, .loc 4, .loc 5, .loc 6] (mTup (mCons (mCall fBarr (mNil)) (mCons (mDictC) (mCons (mInt 0) (mCons (mInt 0) (mCons (mInt 0) (mNil)))))))) ⟨[some (.bytes ks), some (.int most), none, none, none, none, none, none, none], []⟩ = .ok .next (PX.st ks most ⟨[], [], fun _ => none, 0, 0, some (.int 0), none, none⟩) := by
    simp (disch := lia) only [mAsgT, mTup, mCons, mCall, mNil, fBarr, R_bind_ok, List.length_nil, List.nil_append, mDictC, mInt, List.length_cons, Nat.reduceAdd, List.cons_append, Nat.reduceLeDiff, if_true, setTGs, setTG, mSet, List.set_cons_succ, List.set_cons_zero]
    rfl
noncomputable def pA : Mo FV := mAsgT [.loc 2, .loc 3, .loc 4, .loc 5, .loc 6] (mTup (mCons (mCall fBarr (mNil)) (mCons (mDictC) (mCons (mInt 0) (mCons (mInt 0) (mCons (mInt 0) (mNil)))))))
noncomputable def pW (n : Nat) : Mo FV := fun st => mWhile pT pBody n st
noncomputable def pC : Mo FV := mSeq (mRet (mCall fBytes (mCons (mLoc 2) (mNil)))) (mNext)
theorem pack_eq : d_lzjb_pack = mSeq pA (mSeq (pW 5000) pC) := by
  unfold d_lzjb_pack pA pW pC pT pBody
  rfl
theorem a_pack {ks : List Int} {most : Int} {st : St} (hk : OB ks) (hl : ks.length ≤ 2000) :
    f_lzjb_pack [.bytes ks, .int most] st = .ok (if ks = [] ∨ ((packed ks).length : Int) ≤ most then .bytes (packed ks) else .none) st := by
  have hlen := packed_len hl hk
  have h := p_loop (most := most) hk hl ⟨[], [], fun _ => none, 0, 0, some (.int 0), none, none⟩ ⟨Nat.zero_le _, by simp, fun y b e => (by cases e), Nat.le_refl _, fun z => absurd rfl z, by simp [part], by
    simp only [List.nil_append]
    exact mapd_fuel _ _ _ (by have := chunks_len ks (ks.length - 0) 0 (fun _ => none) (Nat.zero_le _) (fun y b e => by cases e); lia) (by have := chunks_len ks ks.length 0 (fun _ => none) (Nat.zero_le _) (fun y b e => by cases e); exact Nat.le_trans this (by lia)), .inr rfl⟩
  have h0 := pack_init (ks := ks) (most := most)
  have hb : ∀ st', st' = (⟨[some (.bytes ks), some (.int most), none, none, none, none, none, none, none], []⟩ : St) → ∃ st2, d_lzjb_pack st' = .ok (.ret (if ks = [] ∨ ((packed ks).length : Int) ≤ most then .bytes (packed ks) else .none)) st2 := by
    intro st' e
    subst e
    rw [pack_eq, seq_next (a := pA) h0]
    rcases h with ⟨l, d, e, q⟩ | ⟨st2, e, q1, q2⟩
    · refine ⟨⟨some (.bytes ks) :: some (.int most) :: some (.ref 0) :: l, [.barr (packed ks), d]⟩, (seq_next (a := pW 5000) e).trans ?_⟩
      rw [if_pos q]
      simp (disch := lia) only [pC, mSeq, mRet, mCall, mCons, mLoc, List.getElem?_cons_succ, List.getElem?_cons_zero, mNil, R_bind_ok, bytesOf_barr, mNext]
    · refine ⟨st2, (seq_ret (a := pW 5000) e).trans ?_⟩
      rw [if_neg (by intro z; rcases z with z | z; exact q1 z; lia)]
  obtain ⟨st2, hb⟩ := hb _ rfl
  by_cases q : ks = [] ∨ ((packed ks).length : Int) ≤ most
  · rw [if_pos q] at hb ⊢
    simp (disch := lia) only [f_lzjb_pack, fCall, fRet, fBeg, List.length_cons, List.length_nil, Nat.reduceAdd, Bool.false_eq_true, flats, V.flat, Bool.and_self, or_true, and_self, List.map_cons, List.map_nil, List.replicate, List.cons_append, List.nil_append, if_false, List.append_nil, hb, deref, retV, deref1, R_bind_ok, if_true]
  · rw [if_neg q] at hb ⊢
    simp (disch := lia) only [f_lzjb_pack, fCall, fRet, fBeg, List.length_cons, List.length_nil, Nat.reduceAdd, Bool.false_eq_true, flats, V.flat, Bool.and_self, or_true, and_self, List.map_cons, List.map_nil, List.replicate, List.cons_append, List.nil_append, if_false, List.append_nil, hb, deref, retV, deref1, R_bind_ok, if_true]
end Mine
end
section
/-! text B1 -/
set_option Elab.async false
set_option autoImplicit false
set_option linter.unusedVariables false
set_option linter.unusedSimpArgs false
namespace Mine
/-! copied -/
noncomputable def cpy (F : List Int) (o : Nat) : Nat → List Int
  | 0 => F
  | k + 1 => cpy (F ++ [gI F ((F.length - o : Nat) : Int)]) o k
theorem cpy_len (o : Nat) : ∀ (k : Nat) (F : List Int), (cpy F o k).length = F.length + k
  | 0, F => rfl
  | k + 1, F => by rw [cpy, cpy_len o k]; simp; lia
theorem cpy_succ (o : Nat) : ∀ (k : Nat) (F : List Int), cpy F o (k + 1) = cpy F o k ++ [gI (cpy F o k) (((cpy F o k).length - o : Nat) : Int)]
  | 0, F => rfl
  | k + 1, F => by rw [cpy, cpy_succ o k]; rfl
theorem cpy_ob {o : Nat} : ∀ {k : Nat} {F : List Int}, OB F → OB (cpy F o k)
  | 0, F, h => h
  | k + 1, F, h => by
    rw [cpy]
    refine cpy_ob fun x hx => ?_
    rcases List.mem_append.mp hx with hx | hx
    · exact h x hx
    · rw [List.mem_singleton.mp hx]; exact gI_ob h _
theorem rngN_nat (k : Nat) : rngN 0 (k : Int) 1 = k := by
  unfold rngN
  split <;> lia
theorem src_rng {k : Nat} {st : St} (h : k ≤ 100000) : srcOf (.rng 0 (k : Int) 1) st = .ok (.rgn 0 1 k) st := by
  have e : srcOf (.rng 0 (k : Int) 1) st = .ok (.rgn 0 1 (rngN 0 k 1)) st := if_pos (by lia)
  rw [e, rngN_nat]
noncomputable def cpBody : Mo FV := (mSeq (mDrop (mMeth fBAppend isBarrC (mLoc 0) (mCons (mSub (mLoc 0) (mBin .Sub (mCall fLen (mCons (mLoc 0) (mNil))) (mLoc 2))) (mNil)))) (mNext))
noncomputable def cst (F : List Int) (m o z : Int) (t : Option V) : St := ⟨[some (.ref 0), some (.int m), some (.int o), some (.int z), t], [.barr F]⟩
theorem cp_loop {F : List Int} {m z : Int} {o k : Nat} {t : Option V} (hF : OB F) (ho : 0 < o) (ho2 : o ≤ F.length) (hl : F.length + k ≤ 100000) : ∀ n, k < n → ∃ t', mForI (.rgn 0 1 k) (setTG (.loc 4)) cpBody n 0 (cst F m o z t) = .ok .next (cst (cpy F o k) m o z t') := by
  intro n hn
  refine for_spec (X := List Int × Option V) (fun x => cst x.1 m o z x.2) k (fun i => .int (0 + (i : Int) * 1)) (fun i x => x.1 = cpy F o i) (fun r => ∃ t', r = .ok .next (cst (cpy F o k) m o z t')) ?_ ?_ ?_ n 0 (F, t) rfl (Nat.zero_le _) (by lia)
  · intro i x _ _
    simp only [srcAt]
    split <;> rfl
  · rintro i ⟨G, u⟩ hi hG
    obtain rfl : G = cpy F o i := hG
    have hlen := cpy_len o i F
    have hob := gI_ob (cpy_ob (o := o) (k := i) hF) (((cpy F o i).length - o : Nat) : Int)
    have hsub : ((cpy F o i).length : Int) - o = (((cpy F o i).length - o : Nat) : Int) := by lia
    refine ⟨_, rfl, .inl ⟨(cpy F o (i + 1), some (.int (0 + (i : Int) * 1))), ?_, rfl⟩⟩
    rw [cpy_succ]
    simp (disch := lia) only [cpBody, mSeq, mDrop, mMeth, mLoc, cst, List.set_cons_succ, List.set_cons_zero, List.getElem?_cons_zero, isBarrC, mCons, mSub, mBin, mCall, mNil, R_bind_ok, len_barr, List.getElem?_cons_succ, bin_sub, hsub, sub_barr, bapp_ok, if_true, mNext]
  · rintro ⟨G, u⟩ hG
    obtain rfl : G = cpy F o k := hG
    exact ⟨u, rfl⟩
end Mine
end
section
/-! text B2 -/
set_option Elab.async false
set_option autoImplicit false
set_option linter.unusedVariables false
set_option linter.unusedSimpArgs false
namespace Mine
noncomputable def cpFor : Mo FV := (mForS (mCall fRange (mCons (mCall fMin (mCons (mLoc 1) (mCons (mBin .Sub (mLoc 3) (mCall fLen (mCons (mLoc 0) (mNil)))) (mNil)))) (mNil))) (setTG (.loc 4)) cpBody)
noncomputable def cpIf : Mo FV := (mIfS (mOr (mTruth (mCmp .Eq (mLoc 2) (mInt 0))) (mOr (mTruth (mCmp .Gt (mLoc 2) (mCall fLen (mCons (mLoc 0) (mNil))))) ((fun st => .ok false st)))) (mSeq (mRaise) (mNext)) (mNext))
theorem copied_eq : d_copied = mSeq cpIf (mSeq cpFor mNext) := by
  unfold d_copied cpIf cpFor cpBody
  rfl
theorem a_copied {F : List Int} {m o z : Nat} {l : List (Option V)} (hF : OB F) (hl : F.length + m ≤ 100000) (hz : F.length ≤ z) :
    f_copied [.ref 0, .int m, .int o, .int z] ⟨l, [.barr F]⟩ = if o = 0 ∨ F.length < o then .exc else .ok .none ⟨l, [.barr (cpy F o (min m (z - F.length)))]⟩ := by
  by_cases h0 : o = 0
  · subst h0
    rw [if_pos (.inl rfl)]
    have hc : cpIf (cst F m (0 : Nat) z none) = .exc := by
      have e : (((0 : Nat) : Int) == 0) = true := rfl
      simp (disch := lia) only [cpIf, mIfS, mOr, mTruth, mCmp, mLoc, cst, List.getElem?_cons_succ, List.getElem?_cons_zero, mInt, cmpV, eqV, neV, ordV, isV, isNotV, R_bind_ok, e, truthV, mCall, mCons, mNil, len_barr, if_true, mSeq, mRaise, mNext, R_bind_exc]
    have hd : d_copied (cst F m (0 : Nat) z none) = .exc := by rw [copied_eq, seq_exc hc]
    simp only [cst] at hd
    simp (disch := lia) only [f_copied, fCall, fRet, fBeg, List.length_cons, List.length_nil, Nat.reduceAdd, flats, V.flat, Bool.and_self, Bool.and_true, Bool.false_eq_true, true_or, and_self, List.map_cons, List.map_nil, List.replicate, List.cons_append, List.nil_append, if_true, List.append_nil, hd, deref, retV, deref1, R_bind_exc]
  · have e0 : (((o : Nat) : Int) == 0) = false := beq_false_of_ne (by lia)
    by_cases h1 : F.length < o
    · rw [if_pos (.inr h1)]
      have h1' : (F.length : Int) < o := by lia
      have hc : cpIf (cst F m o z none) = .exc := by
        simp (disch := lia) only [cpIf, mIfS, mOr, mTruth, mCmp, mLoc, cst, List.getElem?_cons_succ, List.getElem?_cons_zero, mInt, cmpV, eqV, neV, ordV, isV, isNotV, R_bind_ok, e0, truthV, mCall, mCons, mNil, Bool.false_eq_true, len_barr, h1', decide_true, if_true, if_false, mSeq, mRaise, mNext, R_bind_exc]
      have hd : d_copied (cst F m o z none) = .exc := by rw [copied_eq, seq_exc hc]
      simp only [cst] at hd
      simp (disch := lia) only [f_copied, fCall, fRet, fBeg, List.length_cons, List.length_nil, Nat.reduceAdd, flats, V.flat, Bool.and_self, Bool.and_true, Bool.false_eq_true, true_or, and_self, List.map_cons, List.map_nil, List.replicate, List.cons_append, List.nil_append, if_true, List.append_nil, hd, deref, retV, deref1, R_bind_exc]
    · rw [if_neg (by lia)]
      have h1' : ¬ (F.length : Int) < o := by lia
      have hc : cpIf (cst F m o z none) = .ok .next (cst F m o z none) := by
        simp (disch := lia) only [cpIf, mIfS, mOr, mTruth, mCmp, mLoc, cst, List.getElem?_cons_succ, List.getElem?_cons_zero, mInt, cmpV, eqV, neV, ordV, isV, isNotV, R_bind_ok, e0, truthV, mCall, mCons, mNil, Bool.false_eq_true, len_barr, h1', decide_false, if_false, mSeq, mRaise, mNext, R_bind_exc]
      obtain ⟨t', ht⟩ := cp_loop (F := F) (m := m) (z := z) (o := o) (k := min m (z - F.length)) (t := none) hF (by lia) (by lia) (by lia) (min m (z - F.length) + 1) (by lia)
      have hmin : (if (z : Int) - F.length < m then (z : Int) - F.length else m) = ((min m (z - F.length) : Nat) : Int) := by split <;> lia
      have hr : ∀ st, srcOf (.rng 0 ((min m (z - F.length) : Nat) : Int) 1) st = .ok (.rgn 0 1 (min m (z - F.length))) st := fun st => src_rng (by lia)
      have hf : cpFor (cst F m o z none) = .ok .next (cst (cpy F o (min m (z - F.length))) m o z t') := by
        rw [← ht]
        simp (disch := lia) only [cpFor, mForS, mCall, mCons, mLoc, cst, List.getElem?_cons_succ, List.getElem?_cons_zero, mBin, mNil, R_bind_ok, len_barr, bin_sub, fMin, hmin, fRange, srcFuel, listOf, hr]
      have hd : d_copied (cst F m o z none) = .ok .next (cst (cpy F o (min m (z - F.length))) m o z t') := by rw [copied_eq, seq_next hc, seq_next hf]; rfl
      simp only [cst] at hd
      simp (disch := lia) only [f_copied, fCall, fRet, fBeg, List.length_cons, List.length_nil, Nat.reduceAdd, flats, V.flat, Bool.and_self, Bool.and_true, Bool.false_eq_true, true_or, and_self, List.map_cons, List.map_nil, List.replicate, List.cons_append, List.nil_append, if_true, List.append_nil, hd, deref, retV, deref1, R_bind_ok, List.take_succ_cons, List.take_nil, List.all_cons, Cell.flat, List.all_nil]
end Mine
end
section
/-! text B3 -/
set_option Elab.async false
set_option autoImplicit false
set_option linter.unusedVariables false
set_option linter.unusedSimpArgs false
set_option genSizeOf false
set_option genInjectivity false
namespace Mine
/-! lzjb_unpack -/
structure UX where
  F : List Int
  at_ : Nat
  t : Nat
  ms : Int
/-- the next octet of marks, where one is due -/
noncomputable def uMark (ks : List Int) (x : UX) : Option UX := if x.t = 0 then (if ks.length ≤ x.at_ then none else some ⟨x.F, x.at_ + 1, 0, gI ks x.at_⟩) else some x
noncomputable def uWide (x : UX) : Nat := 1 + (x.ms / 2 ^ x.t % 2).toNat
noncomputable def uItem (ks : List Int) (z : Nat) (x : UX) : Option UX :=
  if ks.length < x.at_ + uWide x then none
  else if uWide x = 2 then
    (let o := (gI ks x.at_ % 4 * 256 + gI ks ((x.at_ + 1 : Nat) : Int)).toNat
     if o = 0 ∨ x.F.length < o then none else some ⟨cpy x.F o (min (gI ks x.at_ / 4 + 3).toNat (z - x.F.length)), x.at_ + 2, (x.t + 1) % 8, x.ms⟩)
  else some ⟨x.F ++ [gI ks x.at_], x.at_ + 1, (x.t + 1) % 8, x.ms⟩
noncomputable def uStep (ks : List Int) (z : Nat) (x : UX) : Option UX := (uMark ks x).bind (uItem ks z)
noncomputable def unp (ks : List Int) (z : Nat) : Nat → UX → Option (List Int)
  | 0, _ => none
  | n + 1, x => if x.F.length < z then (uStep ks z x).bind (unp ks z n) else some x.F
noncomputable def uT : Mo Bool := (mTruth (mCmp .Lt (mCall fLen (mCons (mLoc 2) (mNil))) (mLoc 1)))
noncomputable def uHead : Mo FV := (mIfS (mTruth (mCmp .Eq (mLoc 4) (mInt 0))) (mSeq (mIfS (mTruth (mCmp .GtE (mLoc 3) (mCall fLen (mCons (mLoc 0) (mNil))))) (mSeq (mRaise) (mNext)) (mNext)) (mSeq (mAsg 5 (mSub (mLoc 0) (mLoc 3))) (mSeq (mAsg 3 (mBin .Add (mLoc 3) (mInt 1))) (mNext)))) (mNext))
noncomputable def ust (ks : List Int) (z : Nat) (x : UX) (w : Option V) : St := ⟨[some (.bytes ks), some (.int (z : Int)), some (.ref 0), some (.int (x.at_ : Int)), some (.int (x.t : Int)), some (.int x.ms), w], [.barr x.F]⟩
theorem u_head {ks : List Int} {z : Nat} {x : UX} {w : Option V} (hk : OB ks) (hl : ks.length ≤ 5000) (ht : x.t < 8) : uHead (ust ks z x w) = match uMark ks x with | none => .exc | some y => .ok .next (ust ks z y w) := by
  obtain ⟨F, a, t, m⟩ := x
  unfold uMark
  dsimp only
  by_cases h0 : t = 0
  · subst h0
    have e0 : (((0 : Nat) : Int) == 0) = true := rfl
    rw [if_pos rfl]
    by_cases h1 : ks.length ≤ a
    · have h1' : (ks.length : Int) ≤ a := by lia
      rw [if_pos h1]
      simp (disch := lia) only [uHead, mIfS, mTruth, mCmp, mLoc, ust, List.getElem?_cons_succ, List.getElem?_cons_zero, mInt, cmpV, eqV, neV, ordV, isV, isNotV, R_bind_ok, e0, truthV, mSeq, mCall, mCons, mNil, mRaise, mNext, R_bind_exc, mAsg, mSub, mBin, len_bytes, h1', decide_true, if_true]
    · have h1' : ¬ (ks.length : Int) ≤ a := by lia
      rw [if_neg h1]
      simp (disch := lia) only [uHead, mIfS, mTruth, mCmp, mLoc, ust, List.getElem?_cons_succ, List.getElem?_cons_zero, mInt, cmpV, eqV, neV, ordV, isV, isNotV, R_bind_ok, e0, truthV, mSeq, mCall, mCons, mNil, mRaise, mNext, R_bind_exc, mAsg, mSub, mBin, len_bytes, h1', decide_false, Bool.false_eq_true, if_false, sub_bytes, List.set_cons_succ, List.set_cons_zero, bin_add, if_true]
      rfl
  · rw [if_neg h0]
    have e0 : ((t : Int) == 0) = false := beq_false_of_ne (by lia)
    simp (disch := lia) only [uHead, mIfS, mTruth, mCmp, mLoc, ust, List.getElem?_cons_succ, List.getElem?_cons_zero, mInt, cmpV, eqV, neV, ordV, isV, isNotV, R_bind_ok, e0, truthV, mSeq, mCall, mCons, mNil, mRaise, mNext, R_bind_exc, mAsg, mSub, mBin, Bool.false_eq_true, len_bytes, if_false]
end Mine
end
section
/-! text B4 -/
set_option Elab.async false
set_option autoImplicit false
set_option linter.unusedVariables false
set_option linter.unusedSimpArgs false
namespace Mine
noncomputable def uTail : Mo FV := (mSeq (mAsg 6 (mBin .Add (mInt 1) (mBin .BitAnd (mBin .RShift (mLoc 5) (mLoc 4)) (mInt 1)))) (mSeq (mIfS (mTruth (mCmp .Gt (mBin .Add (mLoc 3) (mLoc 6)) (mCall fLen (mCons (mLoc 0) (mNil))))) (mSeq (mRaise) (mNext)) (mNext)) (mSeq (mIfS (mTruth (mCmp .Eq (mLoc 6) (mInt 2))) (mSeq (mDrop (mCall f_copied (mCons (mLoc 2) (mCons (mBin .Add (mBin .RShift (mSub (mLoc 0) (mLoc 3)) (mInt 2)) (mInt 3)) (mCons (mBin .Add (mBin .Mult (mBin .Mod (mSub (mLoc 0) (mLoc 3)) (mInt 4)) (mInt 256)) (mSub (mLoc 0) (mBin .Add (mLoc 3) (mInt 1)))) (mCons (mLoc 1) (mNil))))))) (mNext)) (mSeq (mDrop (mMeth fBAppend isBarrC (mLoc 2) (mCons (mSub (mLoc 0) (mLoc 3)) (mNil)))) (mNext))) (mSeq (mAsg 3 (mBin .Add (mLoc 3) (mLoc 6))) (mSeq (mAsg 4 (mBin .Mod (mBin .Add (mLoc 4) (mInt 1)) (mInt 8))) (mNext))))))
set_option maxHeartbeats 2000000 in
theorem u_tail {ks : List Int} {z : Nat} {x : UX} {w : Option V} (hk : OB ks) (hl : ks.length ≤ 5000) (ht : x.t < 8) (hF : OB x.F) (hz : x.F.length < z) (hz2 : z ≤ 5000) :
    (uItem ks z x = none ∧ uTail (ust ks z x w) = .exc) ∨ (∃ y, uItem ks z x = some y ∧ uTail (ust ks z x w) = .ok .next (ust ks z y (some (.int (uWide x))))) := by
  obtain ⟨F, a, t, m⟩ := x
  dsimp only at *
  have hw : (1 : Int) + m / 2 ^ t % 2 = ((uWide ⟨F, a, t, m⟩ : Nat) : Int) := by
    show _ = ((1 + (m / 2 ^ t % 2).toNat : Nat) : Int)
    lia
  have hw2 : uWide ⟨F, a, t, m⟩ = 1 ∨ uWide ⟨F, a, t, m⟩ = 2 := by
    show 1 + (m / 2 ^ t % 2).toNat = 1 ∨ 1 + (m / 2 ^ t % 2).toNat = 2
    lia
  unfold uItem
  generalize uWide ⟨F, a, t, m⟩ = W at *
  dsimp only
  by_cases h1 : ks.length < a + W
  · left
    have h1' : (ks.length : Int) < (a : Int) + W := by lia
    rw [if_pos h1]
    refine ⟨rfl, ?_⟩
    simp (disch := lia) only [uTail, mSeq, mAsg, mBin, mInt, ust, mLoc, R_bind_ok, List.getElem?_cons_succ, List.getElem?_cons_zero, bin_shr, Int.toNat_natCast, bin_and, bin_add, hw, List.set_cons_succ, List.set_cons_zero, mIfS, mTruth, mCmp, mCall, mCons, mNil, cmpV, eqV, neV, ordV, isV, isNotV, mRaise, mNext, R_bind_exc, mDrop, mSub, mMeth, isBarrC, len_bytes, h1', decide_true, truthV, if_true]
  · have h1' : ¬ (ks.length : Int) < (a : Int) + W := by lia
    rw [if_neg h1]
    have g1 := gI_ob hk a
    have g2 := gI_ob hk ((a + 1 : Nat) : Int)
    rcases hw2 with rfl | rfl
    · right
      rw [if_neg (by decide)]
      refine ⟨_, rfl, ?_⟩
      have e2 : (((1 : Nat) : Int) == 2) = false := rfl
      simp (disch := lia) only [uTail, mSeq, mAsg, mBin, mInt, ust, mLoc, R_bind_ok, List.getElem?_cons_succ, List.getElem?_cons_zero, bin_shr, Int.toNat_natCast, bin_and, bin_add, hw, List.set_cons_succ, List.set_cons_zero, mIfS, mTruth, mCmp, mCall, mCons, mNil, cmpV, eqV, neV, ordV, isV, isNotV, mRaise, mNext, R_bind_exc, mDrop, mSub, mMeth, isBarrC, len_bytes, h1', decide_false, truthV, Bool.false_eq_true, if_false, e2, sub_bytes, bin_mod, bin_mul, bapp_ok, if_true]
      rfl
    · rw [if_pos rfl]
      have e2 : (((2 : Nat) : Int) == 2) = true := rfl
      have ea : (a : Int) + 1 = ((a + 1 : Nat) : Int) := rfl
      have e4 : (2 : Int) ^ Int.toNat 2 = 4 := rfl
      have em : gI ks a / 4 + 3 = (((gI ks a / 4 + 3).toNat : Nat) : Int) := by lia
      have eo : gI ks a % 4 * 256 + gI ks ((a + 1 : Nat) : Int) = (((gI ks a % 4 * 256 + gI ks ((a + 1 : Nat) : Int)).toNat : Nat) : Int) := by lia
      generalize hM : (gI ks a / 4 + 3).toNat = M at *
      generalize hO : (gI ks a % 4 * 256 + gI ks ((a + 1 : Nat) : Int)).toNat = O at *
      have hc := fun l => a_copied (F := F) (m := M) (o := O) (z := z) (l := l) hF (by lia) (by lia)
      by_cases h2 : O = 0 ∨ F.length < O
      · left
        simp only [if_pos h2] at hc
        refine ⟨if_pos h2, ?_⟩
        simp (disch := lia) only [uTail, mSeq, mAsg, mBin, mInt, ust, mLoc, R_bind_ok, List.getElem?_cons_succ, List.getElem?_cons_zero, bin_shr, Int.toNat_natCast, bin_and, bin_add, hw, List.set_cons_succ, List.set_cons_zero, mIfS, mTruth, mCmp, mCall, mCons, mNil, cmpV, eqV, neV, ordV, isV, isNotV, mRaise, mNext, R_bind_exc, mDrop, mSub, mMeth, isBarrC, len_bytes, h1', decide_false, truthV, Bool.false_eq_true, if_false, e2, sub_bytes, e4, em, bin_mod, bin_mul, ea, eo, hc, bapp_ok, if_true]
      · right
        simp only [if_neg h2] at hc
        refine ⟨_, if_neg h2, ?_⟩
        simp (disch := lia) only [uTail, mSeq, mAsg, mBin, mInt, ust, mLoc, R_bind_ok, List.getElem?_cons_succ, List.getElem?_cons_zero, bin_shr, Int.toNat_natCast, bin_and, bin_add, hw, List.set_cons_succ, List.set_cons_zero, mIfS, mTruth, mCmp, mCall, mCons, mNil, cmpV, eqV, neV, ordV, isV, isNotV, mRaise, mNext, R_bind_exc, mDrop, mSub, mMeth, isBarrC, len_bytes, h1', decide_false, truthV, Bool.false_eq_true, if_false, e2, sub_bytes, e4, em, bin_mod, bin_mul, ea, eo, hc, bapp_ok, if_true]
        rfl
end Mine
end
section
/-! text B5 -/
set_option Elab.async false
set_option autoImplicit false
set_option linter.unusedVariables false
set_option linter.unusedSimpArgs false
namespace Mine
theorem uItem_ok {ks : List Int} {z : Nat} {x y : UX} (hk : OB ks) (hF : OB x.F) (hz : x.F.length < z) (h : uItem ks z x = some y) : OB y.F ∧ x.F.length < y.F.length ∧ y.F.length ≤ z ∧ y.t < 8 := by
  unfold uItem at h
  split at h
  · cases h
  · split at h
    · have g1 := gI_ob hk x.at_
      dsimp only at h
      split at h
      · cases h
      · cases h
        have := cpy_len (gI ks x.at_ % 4 * 256 + gI ks ((x.at_ + 1 : Nat) : Int)).toNat (min (gI ks x.at_ / 4 + 3).toNat (z - x.F.length)) x.F
        refine ⟨cpy_ob hF, ?_, ?_, Nat.mod_lt _ (by decide)⟩ <;> dsimp only <;> lia
    · cases h
      refine ⟨fun v hv => ?_, by simp, by simp; lia, Nat.mod_lt _ (by decide)⟩
      rcases List.mem_append.mp hv with hv | hv
      · exact hF v hv
      · rw [List.mem_singleton.mp hv]; exact gI_ob hk _
theorem uMark_ok {ks : List Int} {x y : UX} (h : uMark ks x = some y) : y.F = x.F ∧ y.t = x.t := by
  unfold uMark at h
  split at h
  · split at h
    · cases h
    · cases h; rename_i q _; exact ⟨rfl, q.symm⟩
  · cases h; exact ⟨rfl, rfl⟩
end Mine
end
section
/-! text B6 -/
set_option Elab.async false
set_option autoImplicit false
set_option linter.unusedVariables false
set_option linter.unusedSimpArgs false
namespace Mine
theorem uStep_ok {ks : List Int} {z : Nat} {x y : UX} (hk : OB ks) (hF : OB x.F) (hz : x.F.length < z) (h : uStep ks z x = some y) : OB y.F ∧ x.F.length < y.F.length ∧ y.F.length ≤ z ∧ y.t < 8 := by
  unfold uStep at h
  cases hm : uMark ks x with
  | none => rw [hm] at h; cases h
  | some u =>
    rw [hm] at h
    obtain ⟨e1, e2⟩ := uMark_ok hm
    have := uItem_ok hk (e1 ▸ hF) (e1 ▸ hz) (show uItem ks z u = some y from h)
    rw [e1] at this
    exact this
theorem unp_fuel {ks : List Int} {z : Nat} (hk : OB ks) : ∀ (a b : Nat) (x : UX), OB x.F → z < x.F.length + a → z < x.F.length + b → x.F.length ≤ z → unp ks z a x = unp ks z b x
  | 0, _, x, _, h, _, h' => by lia
  | _ + 1, 0, x, _, _, h, h' => by lia
  | a + 1, b + 1, x, hF, h1, h2, h3 => by
    simp only [unp]
    by_cases hz : x.F.length < z
    · rw [if_pos hz, if_pos hz]
      cases hs : uStep ks z x with
      | none => rfl
      | some y =>
        obtain ⟨q1, q2, q3, _⟩ := uStep_ok hk hF hz hs
        exact unp_fuel hk a b y q1 (by lia) (by lia) q3
    · rw [if_neg hz, if_neg hz]
noncomputable def unpacked (ks : List Int) (z : Nat) : Option (List Int) := unp ks z (z + 1) ⟨[], 0, 0, 0⟩
noncomputable def uW (n : Nat) : Mo FV := fun st => mWhile uT (mSeq uHead uTail) n st
noncomputable def uInv (ks : List Int) (z : Nat) (x : UX × Option V) : Prop := OB x.1.F ∧ x.1.F.length ≤ z ∧ x.1.t < 8 ∧ unp ks z (z + 1) x.1 = unpacked ks z
noncomputable def uPost (ks : List Int) (z : Nat) (r : R FV) : Prop := match unpacked ks z with
  | none => r = .exc
  | some G => ∃ l, r = .ok .next ⟨some (.bytes ks) :: some (.int (z : Int)) :: some (.ref 0) :: l, [.barr G]⟩
theorem u_loop {ks : List Int} {z : Nat} (hk : OB ks) (hl : ks.length ≤ 4000) (hz : z ≤ 4000) (x : UX × Option V) (hx : uInv ks z x) : uPost ks z (uW 5000 (ust ks z x.1 x.2)) := by
  refine w_spec (fun x : UX × Option V => ust ks z x.1 x.2) (uInv ks z) (fun x => z - x.1.F.length) (uPost ks z) ?_ 5000 x hx (by lia)
  clear hx x
  rintro ⟨x, w⟩ ⟨h1, h2, h3, h4⟩
  dsimp only at *
  by_cases hz2 : x.F.length < z
  · right
    have hz' : (x.F.length : Int) < z := by lia
    refine ⟨by simp (disch := lia) only [uT, mTruth, mCmp, mCall, mCons, mLoc, ust, List.getElem?_cons_succ, List.getElem?_cons_zero, mNil, R_bind_ok, len_barr, cmpV, eqV, neV, ordV, isV, isNotV, hz', decide_true, truthV], ?_⟩
    have e : unp ks z (z + 1) x = (uStep ks z x).bind (unp ks z z) := by simp only [unp]; rw [if_pos hz2]
    have hh := u_head (ks := ks) (z := z) (x := x) (w := w) hk (by lia) h3
    unfold uStep at e
    cases hm : uMark ks x with
    | none =>
      rw [hm] at hh e
      right; right
      refine ⟨seq_exc hh, ?_⟩
      unfold uPost; rw [← h4, e]; rfl
    | some u =>
      rw [hm] at hh e
      obtain ⟨m1, m2⟩ := uMark_ok hm
      have ht := u_tail (ks := ks) (z := z) (x := u) (w := w) hk (by lia) (by lia) (m1 ▸ h1) (m1 ▸ hz2) (by lia)
      have e' : unp ks z (z + 1) x = (uItem ks z u).bind (unp ks z z) := e
      rcases ht with ⟨t1, t2⟩ | ⟨y, t1, t2⟩
      · right; right
        refine ⟨(seq_next hh).trans t2, ?_⟩
        unfold uPost; rw [← h4, e', t1]; rfl
      · left
        obtain ⟨q1, q2, q3, q4⟩ := uItem_ok hk (m1 ▸ h1) (m1 ▸ hz2) t1
        rw [m1] at q2
        refine ⟨(y, some (.int (uWide u))), (seq_next hh).trans t2, ⟨q1, q3, q4, ?_⟩, by dsimp only; lia⟩
        rw [← h4, e', t1]
        exact unp_fuel hk (z + 1) z y q1 (by lia) (by lia) q3
  · left
    have hz' : ¬ (x.F.length : Int) < z := by lia
    refine ⟨by simp (disch := lia) only [uT, mTruth, mCmp, mCall, mCons, mLoc, ust, List.getElem?_cons_succ, List.getElem?_cons_zero, mNil, R_bind_ok, len_barr, cmpV, eqV, neV, ordV, isV, isNotV, hz', decide_false, truthV], ?_⟩
    have e : unp ks z (z + 1) x = some x.F := by simp only [unp]; rw [if_neg hz2]
    unfold uPost
    rw [← h4, e]
    exact ⟨_, rfl⟩
end Mine
end
section
/-! text B7 -/
set_option Elab.async false
set_option autoImplicit false
set_option linter.unusedVariables false
set_option linter.unusedSimpArgs false
namespace Mine
noncomputable def uA : Mo FV := mAsgT [.loc 2, .loc 3, .loc 4, .loc 5] (mTup (mCons (mCall fBarr (mNil)) (mCons (mInt 0) (mCons (mInt 0) (mCons (mInt 0) (mNil))))))
theorem unpack_eq : d_lzjb_unpack = mSeq uA (mSeq (uW 5000) pC) := by
  unfold d_lzjb_unpack uA uW pC uT uHead uTail
  rfl
theorem unpack_init {ks : List Int} {z : Nat} : uA ⟨[some (.bytes ks), some (.int (z : Int)), none, none, none, none, none], []⟩ = .ok .next (ust ks z ⟨[], 0, 0, 0⟩ none) := by
  simp (disch := lia) only [uA, mAsgT, mTup, mCons, mCall, mNil, fBarr, R_bind_ok, List.length_nil, List.nil_append, mInt, List.length_cons, Nat.reduceAdd, Nat.reduceLeDiff, if_true, setTGs, setTG, mSet, List.set_cons_succ, List.set_cons_zero]
  rfl
theorem unp_len {ks : List Int} {z : Nat} (hk : OB ks) : ∀ (n : Nat) (x : UX) (G : List Int), OB x.F → x.F.length ≤ z → unp ks z n x = some G → G.length = z ∧ OB G
  | 0, _, _, _, _, h => by cases h
  | n + 1, x, G, hF, hz, h => by
    simp only [unp] at h
    split at h
    · rename_i hlt
      cases hs : uStep ks z x with
      | none => rw [hs] at h; cases h
      | some y =>
        rw [hs] at h
        obtain ⟨q1, q2, q3, _⟩ := uStep_ok hk hF hlt hs
        exact unp_len hk n y G q1 q3 h
    · cases h
      exact ⟨by lia, hF⟩
theorem unpacked_len {ks : List Int} {z : Nat} {G : List Int} (hk : OB ks) (h : unpacked ks z = some G) : G.length = z ∧ OB G :=
  unp_len hk _ _ _ (fun x hx => by cases hx) (Nat.zero_le _) h
theorem a_unpack {ks : List Int} {z : Nat} {st : St} (hk : OB ks) (hl : ks.length ≤ 4000) (hz : z ≤ 4000) :
    f_lzjb_unpack [.bytes ks, .int z] st = match unpacked ks z with | none => .exc | some G => .ok (.bytes G) st := by
  have h := u_loop hk hl hz (⟨[], 0, 0, 0⟩, none) ⟨fun x hx => (by cases hx), Nat.zero_le _, by decide, rfl⟩
  unfold uPost at h
  have hb : ∀ st', st' = (⟨[some (.bytes ks), some (.int (z : Int)), none, none, none, none, none], []⟩ : St) → match unpacked ks z with | none => d_lzjb_unpack st' = .exc | some G => ∃ st2, d_lzjb_unpack st' = .ok (.ret (.bytes G)) st2 := by
    intro st' e
    subst e
    rw [unpack_eq, seq_next (a := uA) unpack_init]
    cases hu : unpacked ks z with
    | none =>
      rw [hu] at h
      exact seq_exc (a := uW 5000) h
    | some G =>
      rw [hu] at h
      obtain ⟨l, h⟩ := h
      have := (unpacked_len hk hu).1
      refine ⟨⟨some (.bytes ks) :: some (.int (z : Int)) :: some (.ref 0) :: l, [.barr G]⟩, (seq_next (a := uW 5000) h).trans ?_⟩
      simp (disch := lia) only [pC, mSeq, mRet, mCall, mCons, mLoc, List.getElem?_cons_succ, List.getElem?_cons_zero, mNil, R_bind_ok, bytesOf_barr, mNext]
  have hb := hb _ rfl
  cases hu : unpacked ks z with
  | none => rw [hu] at hb; dsimp only at hb ⊢; simp (disch := lia) only [f_lzjb_unpack, fCall, fRet, fBeg, List.length_cons, List.length_nil, Nat.reduceAdd, Bool.false_eq_true, flats, V.flat, Bool.and_self, or_true, and_self, List.map_cons, List.map_nil, List.replicate, List.cons_append, List.nil_append, if_false, List.append_nil, hb, deref, retV, deref1, R_bind_exc, if_true]
  | some G =>
    rw [hu] at hb; dsimp only at hb ⊢
    obtain ⟨st2, hb⟩ := hb
    simp (disch := lia) only [f_lzjb_unpack, fCall, fRet, fBeg, List.length_cons, List.length_nil, Nat.reduceAdd, Bool.false_eq_true, flats, V.flat, Bool.and_self, or_true, and_self, List.map_cons, List.map_nil, List.replicate, List.cons_append, List.nil_append, if_false, List.append_nil, hb, deref, retV, deref1, R_bind_ok, if_true]
end Mine
end
section
/-! text C1 -/
set_option Elab.async false
set_option autoImplicit false
set_option linter.unusedVariables false
set_option linter.unusedSimpArgs false
set_option genSizeOf false
set_option genInjectivity false
namespace Mine
open PySem (clipAt clipAt_nat)
/-! lists of ints, slices -/
abbrev T3 := Int × Int × Int
noncomputable def tv (p : T3) : V := .tup [.int p.1, .int p.2.1, .int p.2.2]
section
variable {l : List (Option V)} {cs : List Cell} {F ks : List Int} {T : List T3} {i a b c : Int} {st : St}
theorem app0 {vs : List V} {x : V} (h : vs.length ≤ 1048576) : fAppend (.ref 0) [x] ⟨l, .list vs :: cs⟩ = .ok .none ⟨l, .list (vs ++ [x]) :: cs⟩ := if_pos h
theorem app1 {c : Cell} {vs : List V} {x : V} (h : vs.length ≤ 1048576) : fAppend (.ref 1) [x] ⟨l, c :: .list vs :: cs⟩ = .ok .none ⟨l, c :: .list (vs ++ [x]) :: cs⟩ := if_pos h
theorem app0I (h : F.length ≤ 1048576) : fAppend (.ref 0) [.int a] ⟨l, .list (F.map .int) :: cs⟩ = .ok .none ⟨l, .list ((F ++ [a]).map .int) :: cs⟩ := by
  rw [app0 (by rw [List.length_map]; exact h), List.map_append]; rfl
theorem app1T {d : Cell} (h : T.length ≤ 1048576) : fAppend (.ref 1) [.tup [.int a, .int b, .int c]] ⟨l, d :: .list (T.map tv) :: cs⟩ = .ok .none ⟨l, d :: .list ((T ++ [(a, b, c)]).map tv) :: cs⟩ := by
  rw [app1 (by rw [List.length_map]; exact h), List.map_append]; rfl
theorem lenI (h : F.length ≤ 1048576) : fLen [.ref 0] ⟨l, .list (F.map .int) :: cs⟩ = .ok (.int F.length) ⟨l, .list (F.map .int) :: cs⟩ := by
  rw [len_list (by rw [List.length_map]; exact h), List.length_map]
theorem getD_map (i : Nat) : ∀ F : List Int, i < F.length → (F.map V.int).getD i .none = .int (F.getD i 0) := by
  intro F h
  rw [List.getD_eq_getElem?_getD, List.getD_eq_getElem?_getD, List.getElem?_map, List.getElem?_eq_getElem h]
  rfl
/-- the octet that many places ahead of the end -/
theorem subNeg {o : Nat} (h : 0 < o ∧ o ≤ F.length) (hl : F.length ≤ 1048576) : subV (.ref 0) (.int (-(o : Int))) ⟨l, .list (F.map .int) :: cs⟩ = .ok (.int (gI F ((F.length - o : Nat) : Int))) ⟨l, .list (F.map .int) :: cs⟩ := by
  have e : subV (.ref 0) (.int (-(o : Int))) ⟨l, .list (F.map .int) :: cs⟩ = (if 0 ≤ -(o : Int) ∧ -(o : Int) < (F.map V.int).length ∧ (F.map V.int).length ≤ 1048576 then .ok ((F.map V.int).getD (-(o : Int)).toNat .none) ⟨l, .list (F.map .int) :: cs⟩
      else if -(o : Int) < 0 ∧ -((F.map V.int).length : Int) ≤ -(o : Int) ∧ (F.map V.int).length ≤ 1048576 then .ok ((F.map V.int).getD (-(o : Int) + (F.map V.int).length).toNat .none) ⟨l, .list (F.map .int) :: cs⟩ else .fail) := rfl
  rw [e, List.length_map, if_neg (by lia), if_pos (by lia), getD_map _ _ (by lia)]
  unfold gI
  rw [show (-(o : Int) + (F.length : Int)).toNat = (((F.length - o : Nat) : Int)).toNat by lia]
theorem cut_nat (i j : Nat) : cutV ks (some (i : Int)) (some (j : Int)) = (ks.drop i).take (j - i) := by
  unfold cutV
  show (ks.drop (clipAt ks.length (i : Int))).take (clipAt ks.length (j : Int) - clipAt ks.length (i : Int)) = _
  rw [clipAt_nat, clipAt_nat]
  by_cases h : i ≤ ks.length
  · rw [Nat.min_eq_left h]
    by_cases h2 : j ≤ ks.length
    · rw [Nat.min_eq_left h2]
    · rw [Nat.min_eq_right (by lia), List.take_of_length_le (by rw [List.length_drop]; exact Nat.le_refl _), List.take_of_length_le (by rw [List.length_drop]; lia)]
  · rw [Nat.min_eq_right (show ks.length ≤ i by lia), List.drop_eq_nil_of_le (Nat.le_refl _), List.drop_eq_nil_of_le (show ks.length ≤ i by lia), List.take_nil, List.take_nil]
theorem cut_len {i w : Nat} : (cutV ks (some (i : Int)) (some ((i : Int) + w))).length = min w (ks.length - i) := by
  rw [show (i : Int) + w = ((i + w : Nat) : Int) by lia, cut_nat, List.length_take, List.length_drop]
  lia
theorem cut_1 {i : Nat} (h : i < ks.length) : cutV ks (some (i : Int)) (some ((i : Int) + 1)) = [gI ks i] := by
  rw [show (i : Int) + 1 = ((i + 1 : Nat) : Int) by lia, cut_nat, drop_cons h, show i + 1 - i = 1 by lia]; rfl
theorem cut_2 {i : Nat} (h : i + 1 < ks.length) : cutV ks (some (i : Int)) (some ((i : Int) + 2)) = [gI ks i, gI ks ((i + 1 : Nat) : Int)] := by
  rw [show (i : Int) + 2 = ((i + 2 : Nat) : Int) by lia, cut_nat, drop_cons (show i < _ by lia), drop_cons (show i + 1 < _ by lia), show i + 2 - i = 2 by lia]; rfl
theorem cut_to (z : Nat) {α : Type} (xs : List α) : cutV xs none (some (z : Int)) = xs.take z := by
  unfold cutV
  show (xs.drop 0).take (clipAt xs.length (z : Int) - 0) = _
  rw [clipAt_nat, List.drop_zero, Nat.sub_zero]
  by_cases h : z ≤ xs.length
  · rw [Nat.min_eq_left h]
  · rw [Nat.min_eq_right (by lia), List.take_of_length_le (Nat.le_refl _), List.take_of_length_le (by lia)]
theorem cut_from (i : Nat) {α : Type} (xs : List α) : cutV xs (some (i : Int)) none = xs.drop i := by
  unfold cutV
  show (xs.drop (clipAt xs.length (i : Int))).take (xs.length - clipAt xs.length (i : Int)) = _
  rw [clipAt_nat]
  by_cases h : i ≤ xs.length
  · rw [Nat.min_eq_left h, List.take_of_length_le (by rw [List.length_drop]; lia)]
  · rw [Nat.min_eq_right (show xs.length ≤ i by lia), List.drop_eq_nil_of_le (Nat.le_refl _), List.drop_eq_nil_of_le (show xs.length ≤ i by lia), List.take_nil]
theorem slice_bytes {p : Option Int × Option Int} (h : ks.length ≤ 1048576) : sliceV (.bytes ks) p st = .ok (.bytes (cutV ks p.1 p.2)) st := if_pos h
end
/-! read -/
structure RX where
  F : List Int
  T : List T3
  at_ : Nat
noncomputable def rItem (ks : List Int) (m : Int) (i : Nat) (x : RX) : Option RX :=
  if m / 2 ^ i % 2 = 1 then
    (if ks.length < x.at_ + 2 then none else
     let o := (gI ks x.at_ % 4 * 256 + gI ks ((x.at_ + 1 : Nat) : Int)).toNat
     if o = 0 ∨ x.F.length < o then none else some ⟨cpy x.F o (gI ks x.at_ / 4 + 3).toNat, x.T ++ [((x.F.length : Int), gI ks x.at_ / 4 + 3, (o : Int))], x.at_ + 2⟩)
  else if ks.length < x.at_ + 1 then none else some ⟨x.F ++ [gI ks x.at_], x.T ++ [((x.F.length : Int), 1, 0)], x.at_ + 1⟩
noncomputable def rBit (ks : List Int) (z : Nat) (m : Int) (i : Nat) (x : RX) : Option RX :=
  if x.F.length < z then rItem ks m i x else some ⟨x.F, if 0 < m / 2 ^ i then x.T ++ [(0, 0, 9999)] else x.T, x.at_⟩
noncomputable def rBits (ks : List Int) (z : Nat) (m : Int) : Nat → Nat → RX → Option RX
  | 0, _, x => some x
  | k + 1, i, x => (rBit ks z m i x).bind (rBits ks z m k (i + 1))
noncomputable def rRow (ks : List Int) (z : Nat) (x : RX) : Option RX :=
  if ks.length ≤ x.at_ then none else rBits ks z (gI ks x.at_) 8 0 ⟨x.F, x.T, x.at_ + 1⟩
noncomputable def rd (ks : List Int) (z : Nat) : Nat → RX → Option RX
  | 0, _ => none
  | n + 1, x => if x.F.length < z then (rRow ks z x).bind (rd ks z n) else some x
/-- what a loop leaves behind that no one reads -/
structure RJ where
  m : Option V
  b : Option V
  p : Option V
  s : Option V
  n : Option V
  g : Option V
  k : Option V
noncomputable def rst (ks : List Int) (z : Nat) (x : RX) (j : RJ) : St := ⟨[some (.bytes ks), some (.int (z : Int)), some (.ref 0), some (.ref 1), some (.int (x.at_ : Int)), j.m, j.b, j.p, j.s, j.n, j.g, j.k], [.list (x.F.map .int), .list (x.T.map tv)]⟩
noncomputable def rCopyB : Mo FV := (mSeq (mDrop (mMeth fAppend isListC (mLoc 2) (mCons (mSub (mLoc 2) (mNeg (mLoc 10))) (mNil)))) (mNext))
noncomputable def rCopy : Mo FV := (mForS (mCall fRange (mCons (mLoc 9) (mNil))) (setTG (.loc 11)) rCopyB)
theorem r_copy {ks F : List Int} {z a o M : Nat} {T : List T3} {j : RJ} (hF : OB F) (ho : 0 < o ∧ o ≤ F.length) (hM : M ≤ 1000) (hl : F.length ≤ 10000) (hn : j.n = some (.int (M : Int))) (hg : j.g = some (.int (o : Int))) :
    ∃ k', rCopy (rst ks z ⟨F, T, a⟩ j) = .ok .next (rst ks z ⟨cpy F o M, T, a⟩ ⟨j.m, j.b, j.p, j.s, some (.int (M : Int)), some (.int (o : Int)), k'⟩) := by
  obtain ⟨m, b, p, s, n, g, k⟩ := j
  dsimp only at hn hg
  subst hn hg
  let S : List Int × Option V → St := fun x => rst ks z ⟨x.1, T, a⟩ ⟨m, b, p, s, some (.int (M : Int)), some (.int (o : Int)), x.2⟩
  have key : ∀ n, M < n → ∃ k', mForI (.rgn 0 1 M) (setTG (.loc 11)) rCopyB n 0 (S (F, k)) = .ok .next (S (cpy F o M, k')) := by
    intro n hn
    refine for_spec S M (fun i => .int (0 + (i : Int) * 1)) (fun i x => x.1 = cpy F o i) (fun r => ∃ k', r = .ok .next (S (cpy F o M, k'))) ?_ ?_ ?_ n 0 (F, k) rfl (Nat.zero_le _) (by lia)
    · intro i x _ _
      simp only [srcAt]
      split <;> rfl
    · rintro i ⟨G, u⟩ hi hG
      obtain rfl : G = cpy F o i := hG
      have hlen := cpy_len o i F
      have hn := fun l cs => subNeg (l := l) (cs := cs) (F := cpy F o i) (o := o) ⟨ho.1, by lia⟩ (by lia)
      have ha := fun l cs a => app0I (l := l) (cs := cs) (F := cpy F o i) (a := a) (by lia)
      refine ⟨_, rfl, .inl ⟨(cpy F o (i + 1), some (.int (0 + (i : Int) * 1))), ?_, rfl⟩⟩
      rw [cpy_succ]
      simp (disch := lia) only [rCopyB, mSeq, mDrop, mMeth, mLoc, rst, List.set_cons_succ, List.set_cons_zero, List.getElem?_cons_succ, List.getElem?_cons_zero, isListC, mCons, mSub, mNeg, mNil, R_bind_ok, hn, ha, if_true, mNext, S]
    · rintro ⟨G, u⟩ hG
      obtain rfl : G = cpy F o M := hG
      exact ⟨u, rfl⟩
  obtain ⟨k', hk⟩ := key (M + 1) (by lia)
  have hr : ∀ st, srcOf (.rng 0 ((M : Nat) : Int) 1) st = .ok (.rgn 0 1 M) st := fun st => src_rng (by lia)
  refine ⟨k', ?_⟩
  show _ = R.ok FV.next (S (cpy F o M, k'))
  rw [← hk]
  simp (disch := lia) only [rCopy, mForS, mCall, mCons, mLoc, rst, List.getElem?_cons_succ, List.getElem?_cons_zero, mNil, R_bind_ok, fRange, srcFuel, listOf, hr, S]
end Mine
end
section
/-! text C2 -/
set_option Elab.async false
set_option autoImplicit false
set_option linter.unusedVariables false
set_option linter.unusedSimpArgs false
namespace Mine
theorem bin_div_pow {a : Int} {i : Nat} {st : St} (h : i < 8) : binV .FloorDiv (.int a) (.int (2 ^ i)) st = .ok (.int (a / 2 ^ i)) st := by
  have key : ∀ i : Nat, i < 8 → (0 : Int) < 2 ^ i ∧ (2 : Int) ^ i < 1073741824 := by decide
  exact if_pos (key i h)
noncomputable def rNone : Mo FV := (mSeq (mRet (mTup (mCons (mV .none) (mCons (mLst (mNil)) (mCons (mLoc 4) (mNil)))))) (mNext))
noncomputable def rLit : Mo FV := (mSeq (mDrop (mMeth fAppend isListC (mLoc 3) (mCons (mTup (mCons (mCall fLen (mCons (mLoc 2) (mNil))) (mCons (mInt 1) (mCons (mInt 0) (mNil))))) (mNil)))) (mSeq (mDrop (mMeth fAppend isListC (mLoc 2) (mCons (mSub (mLoc 8) (mInt 0)) (mNil)))) (mNext)))
noncomputable def rM1 : Mo FV := (mAsgS [.loc 9, .loc 10] (mTup (mCons (mBin .Add (mBin .FloorDiv (mSub (mLoc 8) (mInt 0)) (mInt 4)) (mInt 3)) (mCons (mBin .Add (mBin .Mult (mBin .Mod (mSub (mLoc 8) (mInt 0)) (mInt 4)) (mInt 256)) (mSub (mLoc 8) (mInt 1))) (mNil)))))
noncomputable def rM2 : Mo FV := (mIfS (mOr (mTruth (mCmp .Eq (mLoc 10) (mInt 0))) (mOr (mTruth (mCmp .Gt (mLoc 10) (mCall fLen (mCons (mLoc 2) (mNil))))) ((fun st => .ok false st)))) rNone (mNext))
noncomputable def rM3 : Mo FV := (mDrop (mMeth fAppend isListC (mLoc 3) (mCons (mTup (mCons (mCall fLen (mCons (mLoc 2) (mNil))) (mCons (mLoc 9) (mCons (mLoc 10) (mNil))))) (mNil))))
noncomputable def rMat : Mo FV := mSeq rM1 (mSeq rM2 (mSeq rM3 (mSeq rCopy mNext)))
noncomputable def rA1 : Mo FV := (mAsg 7 (mCmp .Eq (mBin .Mod (mBin .FloorDiv (mLoc 5) (mBin .Pow (mInt 2) (mLoc 6))) (mInt 2)) (mInt 1)))
noncomputable def rA2 : Mo FV := (mAsg 8 (mSlice (mLoc 0) (mPair (mSome (mLoc 4)) (mSome (mBin .Add (mBin .Add (mLoc 4) (mInt 1)) (mCall fInt (mCons (mLoc 7) (mNil))))))))
noncomputable def rA3 : Mo FV := (mIfS (mTruth (mCmp .NotEq (mCall fLen (mCons (mLoc 8) (mNil))) (mBin .Add (mInt 1) (mCall fInt (mCons (mLoc 7) (mNil)))))) rNone (mNext))
noncomputable def rA4 : Mo FV := (mAsg 4 (mBin .Add (mLoc 4) (mCall fLen (mCons (mLoc 8) (mNil)))))
noncomputable def rA5 : Mo FV := (mIfS (mNot (mTruth (mLoc 7))) rLit rMat)
noncomputable def rA : Mo FV := mSeq rA1 (mSeq rA2 (mSeq rA3 (mSeq rA4 (mSeq rA5 mNext))))
noncomputable def rB : Mo FV := mSeq (mIfS (mTruth (mCmp .Gt (mBin .FloorDiv (mLoc 5) (mBin .Pow (mInt 2) (mLoc 6))) (mInt 0))) (mSeq (mDrop (mMeth fAppend isListC (mLoc 3) (mCons (mTup (mCons (mInt 0) (mCons (mInt 0) (mCons (mInt 9999) (mNil))))) (mNil)))) (mNext)) (mNext)) mNext
noncomputable def rLt : Mo Bool := (mTruth (mCmp .Lt (mCall fLen (mCons (mLoc 2) (mNil))) (mLoc 1)))
noncomputable def rBody : Mo FV := mSeq (mIfS rLt rA rB) mNext
noncomputable def nothing (a : Int) : V := .tup [.none, .lst [], .int a]
set_option maxHeartbeats 2000000 in
theorem r_item {ks : List Int} {z i : Nat} {m : Int} {x : RX} {p s n g k : Option V} (hk : OB ks) (hl : ks.length ≤ 5000) (hi : i < 8) (hF : OB x.F) (hz : x.F.length < z) (hz2 : z ≤ 5000) (hT : x.T.length ≤ 100000) :
    (rItem ks m i x = none ∧ ∃ a st, rA (rst ks z x ⟨some (.int m), some (.int (i : Int)), p, s, n, g, k⟩) = .ok (.ret (nothing a)) st) ∨
    (∃ y p2 s2 n2 g2 k2, rItem ks m i x = some y ∧ rA (rst ks z x ⟨some (.int m), some (.int (i : Int)), p, s, n, g, k⟩) = .ok .next (rst ks z y ⟨some (.int m), some (.int (i : Int)), p2, s2, n2, g2, k2⟩)) := by
  obtain ⟨F, T, a⟩ := x
  dsimp only at *
  have hFl := fun l cs => lenI (l := l) (cs := cs) (F := F) (by lia)
  have h2i : i ≤ 1000 := by lia
  unfold rItem
  dsimp only
  have hcl := fun w : Nat => cut_len (ks := ks) (i := a) (w := w)
  by_cases hb : m / 2 ^ i % 2 = 1
  · rw [if_pos hb]
    have hb' : (m / 2 ^ i % 2 == 1) = true := by rw [hb]; rfl
    have e1 : rA1 (rst ks z ⟨F, T, a⟩ ⟨some (.int m), some (.int (i : Int)), p, s, n, g, k⟩) = .ok .next (rst ks z ⟨F, T, a⟩ ⟨some (.int m), some (.int (i : Int)), some (.bool true), s, n, g, k⟩) := by
      simp (disch := omega) only [rA1, mAsg, mCmp, mBin, mLoc, rst, List.getElem?_cons_succ, List.getElem?_cons_zero, mInt, R_bind_ok, bin_pow, Int.toNat_natCast, bin_div_pow, bin_mod, cmpV, eqV, neV, ordV, isV, isNotV, hb', List.set_cons_succ, List.set_cons_zero]
    have ea : (a : Int) + 1 + 1 = (a : Int) + (2 : Nat) := by lia
    have e2 : rA2 (rst ks z ⟨F, T, a⟩ ⟨some (.int m), some (.int (i : Int)), some (.bool true), s, n, g, k⟩) = .ok .next (rst ks z ⟨F, T, a⟩ ⟨some (.int m), some (.int (i : Int)), some (.bool true), some (.bytes (cutV ks (some (a : Int)) (some ((a : Int) + (2 : Nat))))), n, g, k⟩) := by
      simp (disch := omega) only [rA2, mAsg, mSlice, mLoc, rst, List.getElem?_cons_zero, mPair, mSome, mBin, mInt, R_bind_ok, mCall, mCons, mNil, fInt, List.getElem?_cons_succ, bin_add, if_true, ea, slice_bytes, List.set_cons_succ, List.set_cons_zero]
    by_cases h1 : ks.length < a + 2
    · rw [if_pos h1]
      left
      refine ⟨rfl, a, rst ks z ⟨F, T, a⟩ ⟨some (.int m), some (.int (i : Int)), some (.bool true), some (.bytes (cutV ks (some (a : Int)) (some ((a : Int) + (2 : Nat))))), n, g, k⟩, ?_⟩
      have hq : (cutV ks (some (a : Int)) (some ((a : Int) + (2 : Nat)))).length ≤ 1048576 := by rw [hcl]; lia
      have hne : (((cutV ks (some (a : Int)) (some ((a : Int) + (2 : Nat)))).length : Int) != 1 + 1) = true := by
        rw [hcl]; exact bne_iff_ne.mpr (by lia)
      unfold rA
      rw [seq_next e1, seq_next e2]
      generalize cutV ks (some (a : Int)) (some ((a : Int) + (2 : Nat))) = C at *
      refine seq_ret ?_
      simp (disch := omega) only [rA3, mIfS, mTruth, mCmp, mCall, mCons, mLoc, rst, List.getElem?_cons_succ, List.getElem?_cons_zero, mNil, R_bind_ok, len_bytes, mBin, mInt, fInt, cmpV, eqV, neV, ordV, isV, isNotV, if_true, bin_add, hne, truthV, rNone, mSeq, mRet, mTup, mV, mLst, List.length_nil, Nat.reduceLeDiff, mNext, List.length_cons, Nat.reduceAdd, nothing]
    · rw [if_neg h1]
      have hc2 : cutV ks (some (a : Int)) (some ((a : Int) + (2 : Nat))) = [gI ks a, gI ks ((a + 1 : Nat) : Int)] := cut_2 (by lia)
      rw [hc2] at e2
      have l2 : ∀ A B st, fLen [.bytes [A, B]] st = .ok (.int 2) st := fun A B st => len_bytes (ks := [A, B]) (by simp)
      have g1 := gI_ob hk a
      have g2 := gI_ob hk ((a + 1 : Nat) : Int)
      have e3 : rA3 (rst ks z ⟨F, T, a⟩ ⟨some (.int m), some (.int (i : Int)), some (.bool true), some (.bytes [gI ks a, gI ks ((a + 1 : Nat) : Int)]), n, g, k⟩) = .ok .next (rst ks z ⟨F, T, a⟩ ⟨some (.int m), some (.int (i : Int)), some (.bool true), some (.bytes [gI ks a, gI ks ((a + 1 : Nat) : Int)]), n, g, k⟩) := by
        have hne : ((2 : Int) != 1 + 1) = false := rfl
        simp (disch := omega) only [rA3, mIfS, mTruth, mCmp, mCall, mCons, mLoc, rst, List.getElem?_cons_succ, List.getElem?_cons_zero, mNil, R_bind_ok, l2, mBin, mInt, fInt, cmpV, eqV, neV, ordV, isV, isNotV, if_true, bin_add, hne, truthV, mNext, Bool.false_eq_true, if_false]
      have e4 : rA4 (rst ks z ⟨F, T, a⟩ ⟨some (.int m), some (.int (i : Int)), some (.bool true), some (.bytes [gI ks a, gI ks ((a + 1 : Nat) : Int)]), n, g, k⟩) = .ok .next (rst ks z ⟨F, T, a + 2⟩ ⟨some (.int m), some (.int (i : Int)), some (.bool true), some (.bytes [gI ks a, gI ks ((a + 1 : Nat) : Int)]), n, g, k⟩) := by
        simp (disch := omega) only [rA4, mAsg, mBin, mLoc, rst, List.getElem?_cons_succ, List.getElem?_cons_zero, mCall, mCons, mNil, R_bind_ok, l2, bin_add, List.set_cons_succ, List.set_cons_zero]
        rfl
      have s0 : ∀ st, subV (.bytes [gI ks a, gI ks ((a + 1 : Nat) : Int)]) (.int 0) st = .ok (.int (gI ks a)) st := fun st => rfl
      have s1 : ∀ st, subV (.bytes [gI ks a, gI ks ((a + 1 : Nat) : Int)]) (.int 1) st = .ok (.int (gI ks ((a + 1 : Nat) : Int))) st := fun st => rfl
      have em : gI ks a / 4 + 3 = (((gI ks a / 4 + 3).toNat : Nat) : Int) := by lia
      have eo : gI ks a % 4 * 256 + gI ks ((a + 1 : Nat) : Int) = (((gI ks a % 4 * 256 + gI ks ((a + 1 : Nat) : Int)).toNat : Nat) : Int) := by lia
      have hM2 : (gI ks a / 4 + 3).toNat ≤ 1000 := by lia
      have e5 : rM1 (rst ks z ⟨F, T, a + 2⟩ ⟨some (.int m), some (.int (i : Int)), some (.bool true), some (.bytes [gI ks a, gI ks ((a + 1 : Nat) : Int)]), n, g, k⟩) = .ok .next (rst ks z ⟨F, T, a + 2⟩ ⟨some (.int m), some (.int (i : Int)), some (.bool true), some (.bytes [gI ks a, gI ks ((a + 1 : Nat) : Int)]), some (.int (((gI ks a / 4 + 3).toNat : Nat) : Int)), some (.int (((gI ks a % 4 * 256 + gI ks ((a + 1 : Nat) : Int)).toNat : Nat) : Int)), k⟩) := by
        rw [← em, ← eo]
        simp (disch := omega) only [rM1, mAsgS, mTup, mCons, mBin, mSub, mLoc, rst, List.getElem?_cons_succ, List.getElem?_cons_zero, mInt, R_bind_ok, s0, bin_div, bin_add, mNil, bin_mod, bin_mul, s1, List.length_cons, List.length_nil, Nat.reduceAdd, Nat.reduceLeDiff, if_true, List.reverse_cons, List.reverse_nil, List.nil_append, List.cons_append, setTGs, setTG, mSet, List.set_cons_succ, List.set_cons_zero]
      rw [em]
      rw [Int.toNat_natCast]
      generalize (gI ks a / 4 + 3).toNat = M at *
      generalize (gI ks a % 4 * 256 + gI ks ((a + 1 : Nat) : Int)).toNat = O at *
      generalize gI ks a = A at *
      generalize gI ks ((a + 1 : Nat) : Int) = B at *
      have hA : ∀ v st', rMat (rst ks z ⟨F, T, a + 2⟩ ⟨some (.int m), some (.int (i : Int)), some (.bool true), some (.bytes [A, B]), n, g, k⟩) = .ok v st' → (match v with
          | .next => rA (rst ks z ⟨F, T, a⟩ ⟨some (.int m), some (.int (i : Int)), p, s, n, g, k⟩) = .ok .next st'
          | .ret v => rA (rst ks z ⟨F, T, a⟩ ⟨some (.int m), some (.int (i : Int)), p, s, n, g, k⟩) = .ok (.ret v) st') := by
        intro v st' hv
        have e5 : rA5 (rst ks z ⟨F, T, a + 2⟩ ⟨some (.int m), some (.int (i : Int)), some (.bool true), some (.bytes [A, B]), n, g, k⟩) = .ok v st' := by
          rw [← hv]
          simp (disch := omega) only [rA5, mIfS, mNot, mTruth, mLoc, rst, List.getElem?_cons_succ, List.getElem?_cons_zero, R_bind_ok, truthV, Bool.not_true, Bool.false_eq_true, if_false]
        unfold rA
        rw [seq_next e1, seq_next e2, seq_next e3, seq_next e4]
        cases v with
        | next => rw [seq_next e5]; rfl
        | ret v => exact seq_ret e5
      by_cases h2 : O = 0 ∨ F.length < O
      · left
        rw [if_pos h2]
        refine ⟨rfl, ((a + 2 : Nat) : Int), rst ks z ⟨F, T, a + 2⟩ ⟨some (.int m), some (.int (i : Int)), some (.bool true), some (.bytes [A, B]), some (.int (M : Int)), some (.int (O : Int)), k⟩, hA (.ret _) _ ?_⟩
        unfold rMat
        rw [seq_next e5]
        refine seq_ret ?_
        by_cases h0 : O = 0
        · subst h0
          have ee : (((0 : Nat) : Int) == 0) = true := rfl
          simp (disch := omega) only [rM2, mIfS, mOr, mTruth, mCmp, mLoc, rst, List.getElem?_cons_succ, List.getElem?_cons_zero, mInt, cmpV, eqV, neV, ordV, isV, isNotV, R_bind_ok, ee, truthV, mCall, mCons, mNil, if_true, rNone, mSeq, mRet, mTup, mV, mLst, List.length_nil, Nat.reduceLeDiff, mNext, List.length_cons, Nat.reduceAdd, nothing]
        · have ee : (((O : Nat) : Int) == 0) = false := beq_false_of_ne (by lia)
          have h2' : (F.length : Int) < O := by lia
          simp (disch := omega) only [rM2, mIfS, mOr, mTruth, mCmp, mLoc, rst, List.getElem?_cons_succ, List.getElem?_cons_zero, mInt, cmpV, eqV, neV, ordV, isV, isNotV, R_bind_ok, ee, truthV, mCall, mCons, mNil, Bool.false_eq_true, hFl, h2', decide_true, if_true, if_false, rNone, mSeq, mRet, mTup, mV, mLst, List.length_nil, Nat.reduceLeDiff, mNext, List.length_cons, Nat.reduceAdd, nothing]
      · right
        rw [if_neg h2]
        have h2' : ¬ (F.length : Int) < O := by lia
        have ee : (((O : Nat) : Int) == 0) = false := beq_false_of_ne (by lia)
        have hat := fun l d (a b c : Int) => app1T (l := l) (d := d) (cs := []) (T := T) (a := a) (b := b) (c := c) (by lia)
        obtain ⟨k', hk'⟩ := r_copy (ks := ks) (F := F) (z := z) (a := a + 2) (o := O) (M := M) (T := T ++ [((F.length : Int), (M : Int), (O : Int))]) (j := ⟨some (.int m), some (.int (i : Int)), some (.bool true), some (.bytes [A, B]), some (.int (M : Int)), some (.int (O : Int)), k⟩) hF (by lia) hM2 (by lia) rfl rfl
        refine ⟨⟨cpy F O M, T ++ [((F.length : Int), (M : Int), (O : Int))], a + 2⟩, some (.bool true), some (.bytes [A, B]), some (.int (M : Int)), some (.int (O : Int)), k', rfl, ?_⟩
        refine hA .next (rst ks z ⟨cpy F O M, T ++ [((F.length : Int), (M : Int), (O : Int))], a + 2⟩ ⟨some (.int m), some (.int (i : Int)), some (.bool true), some (.bytes [A, B]), some (.int (M : Int)), some (.int (O : Int)), k'⟩) ?_
        unfold rMat
        have e6 : rM2 (rst ks z ⟨F, T, a + 2⟩ ⟨some (.int m), some (.int (i : Int)), some (.bool true), some (.bytes [A, B]), some (.int (M : Int)), some (.int (O : Int)), k⟩) = .ok .next (rst ks z ⟨F, T, a + 2⟩ ⟨some (.int m), some (.int (i : Int)), some (.bool true), some (.bytes [A, B]), some (.int (M : Int)), some (.int (O : Int)), k⟩) := by
          simp (disch := omega) only [rM2, mIfS, mOr, mTruth, mCmp, mLoc, rst, List.getElem?_cons_succ, List.getElem?_cons_zero, mInt, cmpV, eqV, neV, ordV, isV, isNotV, R_bind_ok, ee, truthV, mCall, mCons, mNil, Bool.false_eq_true, hFl, h2', decide_false, if_false, mNext]
        have e7 : rM3 (rst ks z ⟨F, T, a + 2⟩ ⟨some (.int m), some (.int (i : Int)), some (.bool true), some (.bytes [A, B]), some (.int (M : Int)), some (.int (O : Int)), k⟩) = .ok .next (rst ks z ⟨F, T ++ [((F.length : Int), (M : Int), (O : Int))], a + 2⟩ ⟨some (.int m), some (.int (i : Int)), some (.bool true), some (.bytes [A, B]), some (.int (M : Int)), some (.int (O : Int)), k⟩) := by
          simp (disch := omega) only [rM3, mDrop, mMeth, mLoc, rst, List.getElem?_cons_succ, List.getElem?_cons_zero, isListC, mCons, mTup, mCall, mNil, R_bind_ok, hFl, List.length_cons, List.length_nil, Nat.reduceAdd, Nat.reduceLeDiff, if_true, hat]
        rw [seq_next e5, seq_next e6, seq_next e7, seq_next hk']
        rfl
  · rw [if_neg hb]
    have hb' : (m / 2 ^ i % 2 == 1) = false := beq_false_of_ne hb
    have e1 : rA1 (rst ks z ⟨F, T, a⟩ ⟨some (.int m), some (.int (i : Int)), p, s, n, g, k⟩) = .ok .next (rst ks z ⟨F, T, a⟩ ⟨some (.int m), some (.int (i : Int)), some (.bool false), s, n, g, k⟩) := by
      simp (disch := omega) only [rA1, mAsg, mCmp, mBin, mLoc, rst, List.getElem?_cons_succ, List.getElem?_cons_zero, mInt, R_bind_ok, bin_pow, Int.toNat_natCast, bin_div_pow, bin_mod, cmpV, eqV, neV, ordV, isV, isNotV, hb', List.set_cons_succ, List.set_cons_zero]
    have ea : (a : Int) + 1 + 0 = (a : Int) + (1 : Nat) := by lia
    have e2 : rA2 (rst ks z ⟨F, T, a⟩ ⟨some (.int m), some (.int (i : Int)), some (.bool false), s, n, g, k⟩) = .ok .next (rst ks z ⟨F, T, a⟩ ⟨some (.int m), some (.int (i : Int)), some (.bool false), some (.bytes (cutV ks (some (a : Int)) (some ((a : Int) + (1 : Nat))))), n, g, k⟩) := by
      simp (disch := omega) only [rA2, mAsg, mSlice, mLoc, rst, List.getElem?_cons_zero, mPair, mSome, mBin, mInt, R_bind_ok, mCall, mCons, mNil, fInt, List.getElem?_cons_succ, bin_add, Bool.false_eq_true, if_false, ea, slice_bytes, List.set_cons_succ, List.set_cons_zero]
    by_cases h1 : ks.length < a + 1
    · rw [if_pos h1]
      left
      refine ⟨rfl, a, rst ks z ⟨F, T, a⟩ ⟨some (.int m), some (.int (i : Int)), some (.bool false), some (.bytes (cutV ks (some (a : Int)) (some ((a : Int) + (1 : Nat))))), n, g, k⟩, ?_⟩
      have hq : (cutV ks (some (a : Int)) (some ((a : Int) + (1 : Nat)))).length ≤ 1048576 := by rw [hcl]; lia
      have hne : (((cutV ks (some (a : Int)) (some ((a : Int) + (1 : Nat)))).length : Int) != 1 + 0) = true := by
        rw [hcl]; exact bne_iff_ne.mpr (by lia)
      unfold rA
      rw [seq_next e1, seq_next e2]
      generalize cutV ks (some (a : Int)) (some ((a : Int) + (1 : Nat))) = C at *
      refine seq_ret ?_
      simp (disch := omega) only [rA3, mIfS, mTruth, mCmp, mCall, mCons, mLoc, rst, List.getElem?_cons_succ, List.getElem?_cons_zero, mNil, R_bind_ok, len_bytes, mBin, mInt, fInt, cmpV, eqV, neV, ordV, isV, isNotV, Bool.false_eq_true, if_false, bin_add, hne, truthV, rNone, mSeq, mRet, mTup, mV, mLst, List.length_nil, Nat.reduceLeDiff, if_true, mNext, List.length_cons, Nat.reduceAdd, nothing]
    · rw [if_neg h1]
      right
      have hc1 : cutV ks (some (a : Int)) (some ((a : Int) + (1 : Nat))) = [gI ks a] := cut_1 (by lia)
      rw [hc1] at e2
      have l1 : ∀ A st, fLen [.bytes [A]] st = .ok (.int 1) st := fun A st => len_bytes (ks := [A]) (by simp)
      have g1 := gI_ob hk a
      have e3 : rA3 (rst ks z ⟨F, T, a⟩ ⟨some (.int m), some (.int (i : Int)), some (.bool false), some (.bytes [gI ks a]), n, g, k⟩) = .ok .next (rst ks z ⟨F, T, a⟩ ⟨some (.int m), some (.int (i : Int)), some (.bool false), some (.bytes [gI ks a]), n, g, k⟩) := by
        have hne : ((1 : Int) != 1 + 0) = false := rfl
        simp (disch := omega) only [rA3, mIfS, mTruth, mCmp, mCall, mCons, mLoc, rst, List.getElem?_cons_succ, List.getElem?_cons_zero, mNil, R_bind_ok, l1, mBin, mInt, fInt, cmpV, eqV, neV, ordV, isV, isNotV, Bool.false_eq_true, if_false, bin_add, hne, truthV, mNext]
      have e4 : rA4 (rst ks z ⟨F, T, a⟩ ⟨some (.int m), some (.int (i : Int)), some (.bool false), some (.bytes [gI ks a]), n, g, k⟩) = .ok .next (rst ks z ⟨F, T, a + 1⟩ ⟨some (.int m), some (.int (i : Int)), some (.bool false), some (.bytes [gI ks a]), n, g, k⟩) := by
        simp (disch := omega) only [rA4, mAsg, mBin, mLoc, rst, List.getElem?_cons_succ, List.getElem?_cons_zero, mCall, mCons, mNil, R_bind_ok, l1, bin_add, List.set_cons_succ, List.set_cons_zero]
        rfl
      have s0 : ∀ st, subV (.bytes [gI ks a]) (.int 0) st = .ok (.int (gI ks a)) st := fun st => rfl
      have hat := fun l d (a b c : Int) => app1T (l := l) (d := d) (cs := []) (T := T) (a := a) (b := b) (c := c) (by lia)
      have hai := fun l cs a => app0I (l := l) (cs := cs) (F := F) (a := a) (by lia)
      have e5 : rA5 (rst ks z ⟨F, T, a + 1⟩ ⟨some (.int m), some (.int (i : Int)), some (.bool false), some (.bytes [gI ks a]), n, g, k⟩) = .ok .next (rst ks z ⟨F ++ [gI ks a], T ++ [((F.length : Int), 1, 0)], a + 1⟩ ⟨some (.int m), some (.int (i : Int)), some (.bool false), some (.bytes [gI ks a]), n, g, k⟩) := by
        simp (disch := omega) only [rA5, mIfS, mNot, mTruth, mLoc, rst, List.getElem?_cons_succ, List.getElem?_cons_zero, R_bind_ok, truthV, Bool.not_false, rLit, mSeq, mDrop, mMeth, isListC, mCons, mTup, mCall, mNil, mInt, mSub, mNext, hFl, List.length_cons, List.length_nil, Nat.reduceAdd, Nat.reduceLeDiff, if_true, hat, s0, hai]
      refine ⟨⟨F ++ [gI ks a], T ++ [((F.length : Int), 1, 0)], a + 1⟩, some (.bool false), some (.bytes [gI ks a]), n, g, k, rfl, ?_⟩
      unfold rA
      rw [seq_next e1, seq_next e2, seq_next e3, seq_next e4, seq_next e5]
      rfl
end Mine
end
section
/-! text C3 -/
set_option Elab.async false
set_option autoImplicit false
set_option linter.unusedVariables false
set_option linter.unusedSimpArgs false
namespace Mine
theorem rItem_ok {ks : List Int} {i : Nat} {m : Int} {x y : RX} (hk : OB ks) (hF : OB x.F) (h : rItem ks m i x = some y) :
    OB y.F ∧ x.F.length < y.F.length ∧ y.F.length ≤ x.F.length + 66 ∧ y.T.length ≤ x.T.length + 1 ∧ x.at_ < y.at_ ∧ y.at_ ≤ ks.length := by
  have g1 := gI_ob hk x.at_
  unfold rItem at h
  split at h
  · split at h
    · cases h
    · dsimp only at h
      split at h
      · cases h
      · cases h
        have := cpy_len (gI ks x.at_ % 4 * 256 + gI ks ((x.at_ + 1 : Nat) : Int)).toNat (gI ks x.at_ / 4 + 3).toNat x.F
        refine ⟨cpy_ob hF, ?_, ?_, ?_, ?_, ?_⟩ <;> dsimp only <;> first | lia | (rw [List.length_append, List.length_singleton]; lia)
  · split at h
    · cases h
    · cases h
      refine ⟨fun v hv => ?_, by simp, by simp, by simp, by simp, by simp; lia⟩
      rcases List.mem_append.mp hv with hv | hv
      · exact hF v hv
      · rw [List.mem_singleton.mp hv]; exact g1
theorem rBit_ok {ks : List Int} {i z : Nat} {m : Int} {x y : RX} (hk : OB ks) (hF : OB x.F) (ha : x.at_ ≤ ks.length) (hz : x.F.length ≤ z + 66) (h : rBit ks z m i x = some y) :
    OB y.F ∧ x.F.length ≤ y.F.length ∧ y.F.length ≤ z + 66 ∧ y.T.length ≤ x.T.length + 1 ∧ x.at_ ≤ y.at_ ∧ y.at_ ≤ ks.length := by
  unfold rBit at h
  split at h
  · have := rItem_ok hk hF h
    refine ⟨this.1, ?_⟩
    lia
  · cases h
    refine ⟨hF, Nat.le_refl _, hz, ?_, Nat.le_refl _, ha⟩
    dsimp only
    split <;> simp
theorem rBits_ok {ks : List Int} {z : Nat} {m : Int} (hk : OB ks) : ∀ (k i : Nat) (x y : RX), OB x.F → x.at_ ≤ ks.length → x.F.length ≤ z + 66 → rBits ks z m k i x = some y →
    OB y.F ∧ x.F.length ≤ y.F.length ∧ y.F.length ≤ z + 66 ∧ y.T.length ≤ x.T.length + k ∧ x.at_ ≤ y.at_ ∧ y.at_ ≤ ks.length
  | 0, i, x, y, hF, ha, hz, h => by
    cases h
    exact ⟨hF, Nat.le_refl _, hz, Nat.le_refl _, Nat.le_refl _, ha⟩
  | k + 1, i, x, y, hF, ha, hz, h => by
    unfold rBits at h
    cases hb : rBit ks z m i x with
    | none => rw [hb] at h; cases h
    | some u =>
      rw [hb] at h
      obtain ⟨q1, q2, q3, q4, q5, q6⟩ := rBit_ok hk hF ha hz hb
      obtain ⟨p1, p2, p3, p4, p5, p6⟩ := rBits_ok hk k (i + 1) u y q1 q6 q3 h
      exact ⟨p1, by lia, p3, by lia, by lia, p6⟩
theorem rRow_ok {ks : List Int} {z : Nat} {x y : RX} (hk : OB ks) (hF : OB x.F) (hz : x.F.length ≤ z + 66) (h : rRow ks z x = some y) :
    OB y.F ∧ y.F.length ≤ z + 66 ∧ y.T.length ≤ x.T.length + 8 ∧ x.at_ < y.at_ ∧ y.at_ ≤ ks.length := by
  unfold rRow at h
  split at h
  · cases h
  · have := rBits_ok hk 8 0 ⟨x.F, x.T, x.at_ + 1⟩ y hF (show x.at_ + 1 ≤ ks.length by lia) hz h
    dsimp only at this
    refine ⟨this.1, ?_⟩
    lia
theorem r_lt {ks : List Int} {z : Nat} {x : RX} {j : RJ} (hz : x.F.length ≤ 10000) : rLt (rst ks z x j) = .ok (decide (x.F.length < z)) (rst ks z x j) := by
  obtain ⟨F, T, a⟩ := x
  dsimp only at *
  have hFl := fun l cs => lenI (l := l) (cs := cs) (F := F) (by lia)
  have e : decide ((F.length : Int) < z) = decide (F.length < z) := by
    by_cases h : F.length < z
    · rw [decide_eq_true h, decide_eq_true (by lia)]
    · rw [decide_eq_false h, decide_eq_false (by lia)]
  simp (disch := lia) only [rLt, mTruth, mCmp, mCall, mCons, mLoc, rst, List.getElem?_cons_succ, List.getElem?_cons_zero, mNil, R_bind_ok, hFl, cmpV, eqV, neV, ordV, isV, isNotV, e, truthV]
theorem r_body {ks : List Int} {z i : Nat} {m : Int} {x : RX} {p s n g k : Option V} (hk : OB ks) (hl : ks.length ≤ 5000) (hi : i < 8) (hF : OB x.F) (hz : x.F.length ≤ z + 66) (hz2 : z ≤ 5000) (hT : x.T.length ≤ 100000) :
    (rBit ks z m i x = none ∧ ∃ a st, rBody (rst ks z x ⟨some (.int m), some (.int (i : Int)), p, s, n, g, k⟩) = .ok (.ret (nothing a)) st) ∨
    (∃ y p2 s2 n2 g2 k2, rBit ks z m i x = some y ∧ rBody (rst ks z x ⟨some (.int m), some (.int (i : Int)), p, s, n, g, k⟩) = .ok .next (rst ks z y ⟨some (.int m), some (.int (i : Int)), p2, s2, n2, g2, k2⟩)) := by
  have h1 := r_lt (ks := ks) (z := z) (x := x) (j := ⟨some (.int m), some (.int (i : Int)), p, s, n, g, k⟩) (by lia)
  unfold rBit
  by_cases hlt : x.F.length < z
  · rw [if_pos hlt]
    rw [decide_eq_true hlt] at h1
    rcases r_item (p := p) (s := s) (n := n) (g := g) (k := k) (m := m) hk hl hi hF hlt hz2 hT with ⟨q1, a, st, q2⟩ | ⟨y, p2, s2, n2, g2, k2, q1, q2⟩
    · left
      refine ⟨q1, a, st, ?_⟩
      unfold rBody
      refine seq_ret ?_
      simp only [mIfS, h1, R_bind_ok, if_true, q2]
    · right
      refine ⟨y, p2, s2, n2, g2, k2, q1, ?_⟩
      unfold rBody
      rw [seq_next (st' := rst ks z y ⟨some (.int m), some (.int (i : Int)), p2, s2, n2, g2, k2⟩)]
      · rfl
      · simp only [mIfS, h1, R_bind_ok, if_true, q2]
  · rw [if_neg hlt]
    rw [decide_eq_false hlt] at h1
    right
    obtain ⟨F, T, a⟩ := x
    dsimp only at *
    have hat := fun l d (a b c : Int) => app1T (l := l) (d := d) (cs := []) (T := T) (a := a) (b := b) (c := c) (by lia)
    refine ⟨_, p, s, n, g, k, rfl, ?_⟩
    have hB : rB (rst ks z ⟨F, T, a⟩ ⟨some (.int m), some (.int (i : Int)), p, s, n, g, k⟩) = .ok .next (rst ks z ⟨F, if 0 < m / 2 ^ i then T ++ [(0, 0, 9999)] else T, a⟩ ⟨some (.int m), some (.int (i : Int)), p, s, n, g, k⟩) := by
      by_cases h0 : 0 < m / 2 ^ i
      · simp (disch := lia) only [rB, mSeq, mIfS, mTruth, mCmp, mBin, mLoc, rst, List.getElem?_cons_succ, List.getElem?_cons_zero, mInt, R_bind_ok, bin_pow, Int.toNat_natCast, bin_div_pow, cmpV, eqV, neV, ordV, isV, isNotV, h0, decide_true, truthV, mDrop, mMeth, isListC, mCons, mTup, mNil, List.length_cons, List.length_nil, Nat.reduceAdd, Nat.reduceLeDiff, if_true, mNext, hat]
      · simp (disch := lia) only [rB, mSeq, mIfS, mTruth, mCmp, mBin, mLoc, rst, List.getElem?_cons_succ, List.getElem?_cons_zero, mInt, R_bind_ok, bin_pow, Int.toNat_natCast, bin_div_pow, cmpV, eqV, neV, ordV, isV, isNotV, h0, decide_false, truthV, mDrop, mMeth, isListC, mCons, mTup, mNil, List.length_cons, List.length_nil, Nat.reduceAdd, Nat.reduceLeDiff, if_true, mNext, Bool.false_eq_true, hat, if_false]
    unfold rBody
    rw [seq_next (st' := rst ks z ⟨F, if 0 < m / 2 ^ i then T ++ [(0, 0, 9999)] else T, a⟩ ⟨some (.int m), some (.int (i : Int)), p, s, n, g, k⟩)]
    · rfl
    · simp only [mIfS, h1, R_bind_ok, Bool.false_eq_true, if_false, hB]
noncomputable def rFor : Mo FV := (mForS (mCall fRange (mCons (mInt 8) (mNil))) (setTG (.loc 6)) rBody)
theorem r_for {ks : List Int} {z : Nat} {m : Int} {x : RX} {j : RJ} (hk : OB ks) (hl : ks.length ≤ 5000) (hF : OB x.F) (ha : x.at_ ≤ ks.length) (hz : x.F.length ≤ z + 66) (hz2 : z ≤ 5000) (hT : x.T.length ≤ 90000) (hm : j.m = some (.int m)) :
    (rBits ks z m 8 0 x = none ∧ ∃ a st, rFor (rst ks z x j) = .ok (.ret (nothing a)) st) ∨ (∃ y j', rBits ks z m 8 0 x = some y ∧ rFor (rst ks z x j) = .ok .next (rst ks z y j')) := by
  let Post : R FV → Prop := fun r => (rBits ks z m 8 0 x = none ∧ ∃ a st, r = .ok (.ret (nothing a)) st) ∨ (∃ y j', rBits ks z m 8 0 x = some y ∧ r = .ok .next (rst ks z y j'))
  have key : Post (mForI (.rgn 0 1 8) (setTG (.loc 6)) rBody 9 0 (rst ks z x j)) := by
    refine for_spec (X := RX × RJ) (fun u => rst ks z u.1 u.2) 8 (fun i => .int (0 + (i : Int) * 1)) (fun i u => OB u.1.F ∧ u.1.at_ ≤ ks.length ∧ u.1.F.length ≤ z + 66 ∧ u.1.T.length ≤ x.T.length + i ∧ u.2.m = some (.int m) ∧ rBits ks z m (8 - i) i u.1 = rBits ks z m 8 0 x) Post ?_ ?_ ?_ 9 0 (x, j) ⟨hF, ha, hz, Nat.le_refl _, hm, rfl⟩ (Nat.zero_le _) (by lia)
    · intro i x _ _
      simp only [srcAt]
      split <;> rfl
    · rintro i ⟨u, ⟨um, ub, up, us, un, ug, uk⟩⟩ hi ⟨h1, h2, h3, h4, h5, h6⟩
      dsimp only at *
      subst h5
      have e0 : (0 : Int) + (i : Int) * 1 = i := by lia
      rw [e0]
      refine ⟨rst ks z u ⟨some (.int m), some (.int (i : Int)), up, us, un, ug, uk⟩, rfl, ?_⟩
      rw [show 8 - i = (8 - (i + 1)) + 1 by lia] at h6
      unfold rBits at h6
      rcases r_body (p := up) (s := us) (n := un) (g := ug) (k := uk) (m := m) hk hl hi h1 h3 hz2 (by lia) with ⟨q1, a, st, q2⟩ | ⟨y, p2, s2, n2, g2, k2, q1, q2⟩
      · right; left
        rw [q1] at h6
        exact ⟨_, st, q2, .inl ⟨h6.symm, a, st, rfl⟩⟩
      · left
        rw [q1] at h6
        obtain ⟨p1, _, p3, p4, _, p6⟩ := rBit_ok hk h1 h2 h3 q1
        exact ⟨(y, ⟨some (.int m), some (.int (i : Int)), p2, s2, n2, g2, k2⟩), q2, p1, p6, p3, by dsimp only; lia, rfl, h6⟩
    · rintro ⟨u, uj⟩ ⟨_, _, _, _, _, h6⟩
      exact .inr ⟨u, uj, h6.symm, rfl⟩
  have hr : ∀ st, srcOf (.rng 0 8 1) st = .ok (.rgn 0 1 8) st := fun st => src_rng (k := 8) (by lia)
  have e : rFor (rst ks z x j) = mForI (.rgn 0 1 8) (setTG (.loc 6)) rBody 9 0 (rst ks z x j) := by
    simp (disch := lia) only [rFor, mForS, mCall, mCons, mInt, mNil, R_bind_ok, fRange, srcFuel, listOf, hr, Nat.reduceAdd]
  rw [e]
  exact key
end Mine
end
section
/-! text C4 -/
set_option Elab.async false
set_option autoImplicit false
set_option linter.unusedVariables false
set_option linter.unusedSimpArgs false
namespace Mine
noncomputable def rO1 : Mo FV := (mIfS (mTruth (mCmp .Eq (mSlice (mLoc 0) (mPair (mSome (mLoc 4)) (mSome (mBin .Add (mLoc 4) (mInt 1))))) (mV (.bytes [])))) rNone (mNext))
noncomputable def rO2 : Mo FV := (mAsg 5 (mSub (mLoc 0) (mLoc 4)))
noncomputable def rO3 : Mo FV := (mAsg 4 (mBin .Add (mLoc 4) (mInt 1)))
noncomputable def rOut : Mo FV := mSeq rO1 (mSeq rO2 (mSeq rO3 (mSeq rFor mNext)))
theorem r_row {ks : List Int} {z : Nat} {x : RX} {j : RJ} (hk : OB ks) (hl : ks.length ≤ 5000) (hF : OB x.F) (ha : x.at_ ≤ ks.length) (hz : x.F.length ≤ z + 66) (hz2 : z ≤ 5000) (hT : x.T.length ≤ 90000) :
    (rRow ks z x = none ∧ ∃ a st, rOut (rst ks z x j) = .ok (.ret (nothing a)) st) ∨ (∃ y j', rRow ks z x = some y ∧ rOut (rst ks z x j) = .ok .next (rst ks z y j')) := by
  obtain ⟨F, T, a⟩ := x
  obtain ⟨m, b, p, s, n, g, k⟩ := j
  dsimp only at *
  unfold rRow
  dsimp only
  by_cases h1 : ks.length ≤ a
  · left
    rw [if_pos h1]
    refine ⟨rfl, a, rst ks z ⟨F, T, a⟩ ⟨m, b, p, s, n, g, k⟩, ?_⟩
    unfold rOut
    refine seq_ret ?_
    have hc : cutV ks (some (a : Int)) (some ((a : Int) + 1)) = [] := by
      have := cut_len (ks := ks) (i := a) (w := 1)
      exact List.length_eq_zero_iff.mp (by rw [show (a : Int) + 1 = (a : Int) + (1 : Nat) from rfl, this]; lia)
    simp (disch := lia) only [rO1, mIfS, mTruth, mCmp, mSlice, mLoc, rst, List.getElem?_cons_zero, mPair, mSome, mBin, mInt, R_bind_ok, List.getElem?_cons_succ, bin_add, slice_bytes, hc, mV, cmpV, eqV, neV, ordV, isV, isNotV, beq_self_eq_true, truthV, rNone, mSeq, mRet, mTup, mCons, mLst, mNil, List.length_nil, Nat.reduceLeDiff, if_true, mNext, List.length_cons, Nat.reduceAdd, nothing]
  · rw [if_neg h1]
    have hc : cutV ks (some (a : Int)) (some ((a : Int) + 1)) = [gI ks a] := cut_1 (by lia)
    have hne : ([gI ks a] == ([] : List Int)) = false := rfl
    have e1 : rO1 (rst ks z ⟨F, T, a⟩ ⟨m, b, p, s, n, g, k⟩) = .ok .next (rst ks z ⟨F, T, a⟩ ⟨m, b, p, s, n, g, k⟩) := by
      simp (disch := lia) only [rO1, mIfS, mTruth, mCmp, mSlice, mLoc, rst, List.getElem?_cons_zero, mPair, mSome, mBin, mInt, R_bind_ok, List.getElem?_cons_succ, bin_add, slice_bytes, hc, mV, cmpV, eqV, neV, ordV, isV, isNotV, hne, truthV, mNext, Bool.false_eq_true, if_false]
    have e2 : rO2 (rst ks z ⟨F, T, a⟩ ⟨m, b, p, s, n, g, k⟩) = .ok .next (rst ks z ⟨F, T, a⟩ ⟨some (.int (gI ks a)), b, p, s, n, g, k⟩) := by
      simp (disch := lia) only [rO2, mAsg, mSub, mLoc, rst, List.getElem?_cons_zero, R_bind_ok, List.getElem?_cons_succ, sub_bytes, List.set_cons_succ, List.set_cons_zero]
    have e3 : rO3 (rst ks z ⟨F, T, a⟩ ⟨some (.int (gI ks a)), b, p, s, n, g, k⟩) = .ok .next (rst ks z ⟨F, T, a + 1⟩ ⟨some (.int (gI ks a)), b, p, s, n, g, k⟩) := by
      simp (disch := lia) only [rO3, mAsg, mBin, mLoc, rst, List.getElem?_cons_succ, List.getElem?_cons_zero, mInt, R_bind_ok, bin_add, List.set_cons_succ, List.set_cons_zero]
      rfl
    unfold rOut
    rw [seq_next e1, seq_next e2, seq_next e3]
    rcases r_for (ks := ks) (z := z) (m := gI ks a) (x := ⟨F, T, a + 1⟩) (j := ⟨some (.int (gI ks a)), b, p, s, n, g, k⟩) hk hl hF (show a + 1 ≤ ks.length by lia) hz hz2 hT rfl with ⟨q1, a', st, q2⟩ | ⟨y, j', q1, q2⟩
    · exact .inl ⟨q1, a', st, seq_ret q2⟩
    · exact .inr ⟨y, j', q1, by rw [seq_next q2]; rfl⟩
theorem rd_fuel {ks : List Int} {z : Nat} (hk : OB ks) : ∀ (a b : Nat) (x : RX), OB x.F → x.F.length ≤ z + 66 → x.at_ ≤ ks.length → ks.length < x.at_ + a → ks.length < x.at_ + b → rd ks z a x = rd ks z b x
  | 0, _, x, _, _, h, h', _ => by lia
  | _ + 1, 0, x, _, _, h, _, h' => by lia
  | a + 1, b + 1, x, hF, hz, h0, h1, h2 => by
    simp only [rd]
    split
    · cases hs : rRow ks z x with
      | none => rfl
      | some y =>
        obtain ⟨q1, q2, q3, q4, q5⟩ := rRow_ok hk hF hz hs
        exact rd_fuel hk a b y q1 q2 q5 (by lia) (by lia)
    · rfl
noncomputable def rdd (ks : List Int) (z : Nat) : Option RX := rd ks z (ks.length + 1) ⟨[], [], 0⟩
noncomputable def rW (n : Nat) : Mo FV := fun st => mWhile rLt rOut n st
noncomputable def rPost (ks : List Int) (z : Nat) (r : R FV) : Prop := match rdd ks z with
  | none => ∃ a st, r = .ok (.ret (nothing a)) st
  | some y => OB y.F ∧ y.F.length ≤ z + 66 ∧ y.T.length ≤ 90000 ∧ ∃ j, r = .ok .next (rst ks z y j)
theorem r_loop {ks : List Int} {z : Nat} (hk : OB ks) (hl : ks.length ≤ 4000) (hz : z ≤ 4000) (j : RJ) : rPost ks z (rW 5000 (rst ks z ⟨[], [], 0⟩ j)) := by
  refine w_spec (X := RX × RJ) (fun u => rst ks z u.1 u.2) (fun u => OB u.1.F ∧ u.1.at_ ≤ ks.length ∧ u.1.F.length ≤ z + 66 ∧ u.1.T.length ≤ 8 * u.1.at_ ∧ rd ks z (ks.length + 1) u.1 = rdd ks z) (fun u => ks.length - u.1.at_) (rPost ks z) ?_ 5000 (⟨[], [], 0⟩, j) ⟨fun x hx => (by cases hx), Nat.zero_le _, Nat.zero_le _, Nat.zero_le _, rfl⟩ (by dsimp only; lia)
  rintro ⟨x, u⟩ ⟨h1, h2, h3, h4, h5⟩
  dsimp only at *
  have ht := r_lt (ks := ks) (z := z) (x := x) (j := u) (by lia)
  rw [rd] at h5
  by_cases hlt : x.F.length < z
  · right
    rw [decide_eq_true hlt] at ht
    rw [if_pos hlt] at h5
    refine ⟨ht, ?_⟩
    rcases r_row (j := u) hk (by lia) h1 h2 h3 (by lia) (by lia) with ⟨q1, a, st, q2⟩ | ⟨y, j', q1, q2⟩
    · right; left
      rw [q1] at h5
      refine ⟨_, st, q2, ?_⟩
      unfold rPost; rw [← h5]
      exact ⟨a, st, rfl⟩
    · left
      rw [q1] at h5
      obtain ⟨p1, p2, p3, p4, p5⟩ := rRow_ok hk h1 h3 q1
      refine ⟨(y, j'), q2, ⟨p1, p5, p2, by dsimp only; lia, ?_⟩, by dsimp only; lia⟩
      rw [← h5]
      exact rd_fuel hk _ _ y p1 p2 p5 (by lia) (by lia)
  · left
    rw [decide_eq_false hlt] at ht
    rw [if_neg hlt] at h5
    refine ⟨ht, ?_⟩
    unfold rPost; rw [← h5]
    exact ⟨h1, h3, by lia, u, rfl⟩
noncomputable def rI : Mo FV := mAsgS [.loc 2, .loc 3, .loc 4] (mTup (mCons (mLstC (mNil)) (mCons (mLstC (mNil)) (mCons (mInt 0) (mNil)))))
noncomputable def rE : Mo FV := (mSeq (mRet (mTup (mCons (mCall fBytes (mCons (mSlice (mLoc 2) (mPair (mNone) (mSome (mLoc 1)))) (mNil))) (mCons (mLoc 3) (mCons (mLoc 4) (mNil)))))) (mNext))
theorem read_eq : d_law_read = mSeq rI (mSeq (rW 5000) rE) := by
  unfold d_law_read rI rW rE rLt rOut rO1 rO2 rO3 rFor rBody rLt rA rB rA1 rA2 rA3 rA4 rA5 rLit rMat rM1 rM2 rM3 rCopy rCopyB rNone
  rfl
theorem read_init {ks : List Int} {z : Nat} : rI ⟨[some (.bytes ks), some (.int (z : Int)), none, none, none, none, none, none, none, none, none, none], []⟩ = .ok .next (rst ks z ⟨[], [], 0⟩ ⟨none, none, none, none, none, none, none⟩) := by
  simp (disch := lia) only [rI, mAsgS, mTup, mCons, mLstC, mNil, R_bind_ok, List.length_nil, Nat.reduceLeDiff, List.nil_append, if_true, mInt, List.length_cons, Nat.reduceAdd, List.cons_append, List.reverse_cons, List.reverse_nil, setTGs, setTG, mSet, List.set_cons_succ, List.set_cons_zero]
  rfl
theorem flats_tv : ∀ T : List T3, flats (T.map tv) = true
  | [] => rfl
  | p :: T => by simp only [List.map_cons, flats, flats_tv T, tv, V.flat, Bool.and_true]
theorem slice_list {l : List (Option V)} {vs : List V} {cs : List Cell} {p : Option Int × Option Int} (h : vs.length ≤ 1048576) : sliceV (.ref 0) p ⟨l, .list vs :: cs⟩ = .ok (.lst (cutV vs p.1 p.2)) ⟨l, .list vs :: cs⟩ := if_pos h
theorem r_end {ks : List Int} {z : Nat} {y : RX} {j : RJ} (h1 : OB y.F) (h2 : y.F.length ≤ 100000) : rE (rst ks z y j) = .ok (.ret (.tup [.bytes (y.F.take z), .ref 1, .int y.at_])) (rst ks z y j) := by
  obtain ⟨F, T, a⟩ := y
  dsimp only at *
  have hs := fun l cs p => slice_list (l := l) (vs := F.map V.int) (cs := cs) (p := p) (by rw [List.length_map]; lia)
  have hc : cutV (F.map V.int) none (some (z : Int)) = (F.take z).map .int := by rw [cut_to, List.map_take]
  have hb : ∀ st, fBytes [.lst ((F.take z).map .int)] st = .ok (.bytes (F.take z)) st := fun st => bytes_ints (fun x hx => h1 x (List.mem_of_mem_take hx)) (by rw [List.length_take]; lia)
  simp (disch := lia) only [rE, mSeq, mRet, mTup, mCons, mCall, mSlice, mLoc, rst, List.getElem?_cons_succ, List.getElem?_cons_zero, mPair, mNone, mSome, R_bind_ok, hs, hc, mNil, hb, List.length_cons, List.length_nil, Nat.reduceAdd, Nat.reduceLeDiff, if_true, mNext]
theorem a_read {ks : List Int} {z : Nat} (hk : OB ks) (hl : ks.length ≤ 4000) (hz : z ≤ 4000) :
    match rdd ks z with
    | none => ∃ a, ∀ st, f_law_read [.bytes ks, .int z] st = .ok (nothing a) st
    | some y => ∀ st, f_law_read [.bytes ks, .int z] st = .ok (.tup [.bytes (y.F.take z), .lst (y.T.map tv), .int y.at_]) st := by
  have h := r_loop hk hl hz ⟨none, none, none, none, none, none, none⟩
  unfold rPost at h
  have e : ∀ st', st' = (⟨[some (.bytes ks), some (.int (z : Int)), none, none, none, none, none, none, none, none, none, none], []⟩ : St) → d_law_read st' = mSeq (rW 5000) rE (rst ks z ⟨[], [], 0⟩ ⟨none, none, none, none, none, none, none⟩) := by
    intro st' e
    subst e
    rw [read_eq, seq_next (a := rI) read_init]
  have e := e _ rfl
  cases hr : rdd ks z with
  | none =>
    rw [hr] at h
    obtain ⟨a, st2, h⟩ := h
    rw [seq_ret (a := rW 5000) h] at e
    refine ⟨a, fun st => ?_⟩
    simp (disch := lia) only [f_law_read, fCall, fRet, fBeg, List.length_cons, List.length_nil, Nat.reduceAdd, Bool.false_eq_true, flats, V.flat, Bool.and_self, or_true, and_self, List.map_cons, List.map_nil, List.replicate, List.cons_append, List.nil_append, if_false, List.append_nil, e, nothing, deref, retV, deref1, R_bind_ok, derefs, if_true, Option.map_some]
  | some y =>
    rw [hr] at h
    obtain ⟨h1, h2, h3, j, h⟩ := h
    rw [seq_next (a := rW 5000) h, r_end h1 (by lia)] at e
    intro st
    simp (disch := lia) only [f_law_read, fCall, fRet, fBeg, List.length_cons, List.length_nil, Nat.reduceAdd, Bool.false_eq_true, flats, V.flat, Bool.and_self, or_true, and_self, List.map_cons, List.map_nil, List.replicate, List.cons_append, List.nil_append, if_false, List.append_nil, e, rst, deref, retV, deref1, R_bind_ok, derefs, if_true, Nat.reduceLT, List.getElem?_cons_succ, List.getElem?_cons_zero, flats_tv, Option.map_some]
end Mine
end
section
/-! text C5 -/
set_option Elab.async false
set_option autoImplicit false
set_option linter.unusedVariables false
set_option linter.unusedSimpArgs false
namespace Mine
/-! what is read is what is unpacked -/
theorem cpy_pre (F : List Int) (o a : Nat) : ∀ b : Nat, (cpy F o (a + b)).take (F.length + a) = cpy F o a
  | 0 => by rw [Nat.add_zero, List.take_of_length_le]; rw [cpy_len]; exact Nat.le_refl _
  | b + 1 => by
    rw [show a + (b + 1) = (a + b) + 1 by lia, cpy_succ, List.take_append_of_le_length (by rw [cpy_len]; lia)]
    exact cpy_pre F o a b
theorem cpy_take {F : List Int} {o M z : Nat} (h : F.length ≤ z) : (cpy F o M).take z = cpy F o (min M (z - F.length)) := by
  by_cases hm : M ≤ z - F.length
  · rw [Nat.min_eq_left hm, List.take_of_length_le]
    rw [cpy_len]; lia
  · rw [Nat.min_eq_right (by lia)]
    have := cpy_pre F o (z - F.length) (M - (z - F.length))
    rw [show z - F.length + (M - (z - F.length)) = M by lia, show F.length + (z - F.length) = z by lia] at this
    exact this
noncomputable def uI (ks : List Int) (z : Nat) (x : UX) : Option (List Int) := if x.F.length < z then (uItem ks z x).bind (unp ks z (z + 1)) else some x.F
theorem item_sim {ks : List Int} {z i : Nat} {m : Int} {x : RX} (hF : x.F.length < z) : uItem ks z ⟨x.F, x.at_, i, m⟩ = (rItem ks m i x).map fun y => ⟨y.F.take z, y.at_, (i + 1) % 8, m⟩ := by
  unfold uItem rItem uWide
  dsimp only
  by_cases hb : m / 2 ^ i % 2 = 1
  · rw [if_pos hb]
    have e : 1 + (m / 2 ^ i % 2).toNat = 2 := by rw [hb]; rfl
    rw [e]
    split
    · rfl
    · rw [if_pos rfl]
      split
      · rfl
      · rw [Option.map_some, ← cpy_take (Nat.le_of_lt hF)]
  · rw [if_neg hb]
    have e : 1 + (m / 2 ^ i % 2).toNat = 1 := by lia
    rw [e]
    split
    · rfl
    · rw [if_neg (by decide), Option.map_some]
      dsimp only
      rw [List.take_of_length_le (by simp; lia)]
theorem unp_step {ks : List Int} {z : Nat} {x y : UX} (hk : OB ks) (hF : OB x.F) (hm : uMark ks x = some y) (hz : x.F.length < z) : unp ks z (z + 1) x = uI ks z y := by
  obtain ⟨m1, m2⟩ := uMark_ok hm
  unfold uI
  rw [unp, if_pos hz, m1, if_pos hz]
  unfold uStep
  rw [hm]
  show (uItem ks z y).bind _ = _
  cases hi : uItem ks z y with
  | none => rfl
  | some v =>
    obtain ⟨q1, q2, q3, _⟩ := uItem_ok hk (m1 ▸ hF) (m1 ▸ hz) hi
    rw [m1] at q2
    exact unp_fuel hk z (z + 1) v q1 (by lia) (by lia) q3
theorem unp_uI {ks : List Int} {z : Nat} {x : UX} (hk : OB ks) (hF : OB x.F) (ht : x.t ≠ 0) : unp ks z (z + 1) x = uI ks z x := by
  by_cases hz : x.F.length < z
  · exact unp_step hk hF (by unfold uMark; rw [if_neg ht]) hz
  · rw [unp, if_neg hz]
    unfold uI
    rw [if_neg hz]
theorem ob_take {F : List Int} (h : OB F) (z : Nat) : OB (F.take z) := fun x hx => h x (List.mem_of_mem_take hx)
theorem bits_sim {ks : List Int} {z : Nat} {m : Int} (hk : OB ks) : ∀ (k i : Nat) (x : RX), i + (k + 1) = 8 → OB x.F →
    uI ks z ⟨x.F.take z, x.at_, i, m⟩ = (rBits ks z m (k + 1) i x).bind fun y => unp ks z (z + 1) ⟨y.F.take z, y.at_, 0, m⟩ := by
  intro k
  induction k with
  | zero =>
    intro i x hi hF
    obtain rfl : i = 7 := by lia
    rw [rBits]
    unfold uI rBit
    by_cases hz : x.F.length < z
    · rw [if_pos hz, List.take_of_length_le (Nat.le_of_lt hz), if_pos hz, item_sim hz]
      cases rItem ks m 7 x <;> rfl
    · rw [if_neg hz]
      dsimp only
      rw [List.length_take, if_neg (by lia)]
      show _ = unp ks z (z + 1) ⟨x.F.take z, x.at_, 0, m⟩
      rw [unp, if_neg (by rw [List.length_take]; lia)]
  | succ k ih =>
    intro i x hi hF
    rw [rBits]
    by_cases hz : x.F.length < z
    · unfold uI rBit
      rw [if_pos hz, List.take_of_length_le (Nat.le_of_lt hz), if_pos hz, item_sim hz]
      cases hr : rItem ks m i x with
      | none => rfl
      | some y =>
        obtain ⟨q1, _⟩ := rItem_ok hk hF hr
        show unp ks z (z + 1) ⟨y.F.take z, y.at_, (i + 1) % 8, m⟩ = _
        rw [Nat.mod_eq_of_lt (by lia), unp_uI hk (ob_take q1 z) (Nat.succ_ne_zero i), ih (i + 1) y (by lia) q1]
        rfl
    · unfold rBit
      rw [if_neg hz]
      refine Eq.trans ?_ (ih (i + 1) ⟨x.F, if 0 < m / 2 ^ i then x.T ++ [(0, 0, 9999)] else x.T, x.at_⟩ (by lia) hF)
      unfold uI
      dsimp only
      rw [List.length_take, if_neg (by lia), if_neg (by lia)]
theorem rd_sim {ks : List Int} {z : Nat} (hk : OB ks) : ∀ (n : Nat) (x : RX) (m : Int), OB x.F → x.F.length ≤ z + 66 → x.at_ ≤ ks.length → ks.length < x.at_ + n →
    unp ks z (z + 1) ⟨x.F.take z, x.at_, 0, m⟩ = (rd ks z n x).map fun y => y.F.take z := by
  intro n
  induction n with
  | zero => intro x m _ _ h h'; lia
  | succ n ih =>
    intro x m hF h1 h2 h3
    rw [rd]
    by_cases hz : x.F.length < z
    · rw [if_pos hz, List.take_of_length_le (Nat.le_of_lt hz)]
      unfold rRow
      by_cases ha : ks.length ≤ x.at_
      · rw [if_pos ha, unp, if_pos hz]
        unfold uStep uMark
        rw [if_pos rfl, if_pos ha]
        rfl
      · rw [if_neg ha]
        rw [unp_step (y := ⟨x.F, x.at_ + 1, 0, gI ks x.at_⟩) hk hF (by unfold uMark; rw [if_pos rfl, if_neg ha]) hz]
        have := bits_sim (z := z) (m := gI ks x.at_) hk 7 0 ⟨x.F, x.T, x.at_ + 1⟩ rfl hF
        dsimp only at this
        rw [List.take_of_length_le (Nat.le_of_lt hz)] at this
        rw [this]
        cases hr : rBits ks z (gI ks x.at_) 8 0 ⟨x.F, x.T, x.at_ + 1⟩ with
        | none => rfl
        | some y =>
          obtain ⟨p1, p2, p3, p4, p5, p6⟩ := rBits_ok hk 8 0 ⟨x.F, x.T, x.at_ + 1⟩ y hF (show x.at_ + 1 ≤ ks.length by lia) h1 hr
          exact ih y _ p1 p3 p6 (by dsimp only at p5; lia)
    · rw [if_neg hz, unp, if_neg (by dsimp only; rw [List.length_take]; lia)]
      rfl
theorem rdd_sim {ks : List Int} {z : Nat} (hk : OB ks) : (rdd ks z).map (fun y => y.F.take z) = unpacked ks z := by
  have := rd_sim (z := z) hk (ks.length + 1) ⟨[], [], 0⟩ 0 (fun x hx => by cases hx) (Nat.zero_le _) (Nat.zero_le _) (by dsimp only; lia)
  rw [List.take_nil] at this
  exact this.symm
end Mine
end
section
/-! text C6 -/
set_option Elab.async false
set_option autoImplicit false
set_option linter.unusedVariables false
set_option linter.unusedSimpArgs false
namespace Mine
/-! what was packed is read -/
theorem gI_get {ks : List Int} {i : Nat} (h : i < ks.length) : gI ks i = ks[i] := by
  unfold gI
  rw [Int.toNat_natCast, List.getD_eq_getElem?_getD, List.getElem?_eq_getElem h]; rfl
theorem gI_app {P S : List Int} {c : Int} {a : Nat} (h : a = P.length) : gI (P ++ c :: S) a = c := by
  subst h
  rw [gI_get (by simp)]
  simp
theorem gI_take {ks : List Int} {n i : Nat} (h : i < n) (hl : n ≤ ks.length) : gI (ks.take n) i = gI ks i := by
  rw [gI_get (by rw [List.length_take]; lia), gI_get (by lia), List.getElem_take]
theorem take_snoc {ks : List Int} {n : Nat} (h : n < ks.length) : ks.take (n + 1) = ks.take n ++ [gI ks n] := by
  rw [gI_get h, List.take_succ_eq_append_getElem h]
theorem lcp_eq : ∀ (K : Nat) (xs ys : List Int) (t : Nat), t < lcp K xs ys → xs.getD t 0 = ys.getD t 0
  | 0, _, _, _, h => by simp [lcp] at h
  | K + 1, [], _, _, h => by simp [lcp] at h
  | K + 1, x :: xs, [], _, h => by simp [lcp] at h
  | K + 1, x :: xs, y :: ys, t, h => by
    simp only [lcp] at h
    split at h
    · rename_i e
      cases t with
      | zero => exact e
      | succ t => exact lcp_eq K xs ys t (by lia)
    · lia
theorem lcp_max : ∀ (K : Nat) (xs ys : List Int), lcp K xs ys < K → lcp K xs ys < xs.length → lcp K xs ys < ys.length → xs.getD (lcp K xs ys) 0 ≠ ys.getD (lcp K xs ys) 0
  | 0, _, _, h, _, _ => by lia
  | K + 1, [], _, _, h, _ => by simp at h
  | K + 1, x :: xs, [], _, _, h => by simp at h
  | K + 1, x :: xs, y :: ys, h1, h2, h3 => by
    by_cases e : x = y
    · simp only [lcp, List.length_cons, if_pos e] at *
      exact lcp_max K xs ys (by lia) (by lia) (by lia)
    · simp only [lcp, List.length_cons, if_neg e] at *
      exact e
theorem getD_drop {ks : List Int} (i t : Nat) : (ks.drop i).getD t 0 = gI ks ((i + t : Nat) : Int) := by
  unfold gI
  rw [Int.toNat_natCast, List.getD_eq_getElem?_getD, List.getD_eq_getElem?_getD, List.getElem?_drop]
theorem cpy_lcp {ks : List Int} {i o : Nat} {K : Nat} (ho : 0 < o) (hoi : o ≤ i) : ∀ m : Nat, m ≤ lcp K (ks.drop i) (ks.drop (i - o)) → i + m ≤ ks.length → cpy (ks.take i) o m = ks.take (i + m)
  | 0, _, _ => rfl
  | m + 1, h, hl => by
    rw [cpy_succ, cpy_lcp (K := K) ho hoi m (by lia) (by lia)]
    rw [show i + (m + 1) = (i + m) + 1 by lia, take_snoc (n := i + m) (by lia)]
    have e := lcp_eq K (ks.drop i) (ks.drop (i - o)) m (by lia)
    rw [getD_drop, getD_drop] at e
    rw [e, List.length_take, Nat.min_eq_left (show i + m ≤ ks.length by lia), gI_take (n := i + m) (i := i + m - o) (by lia) (by lia)]
    rw [show i + m - o = i - o + m by lia]
/-- the things from a place on -/
noncomputable def ch (ks : List Int) (i : Nat) (f : Int → Option Int) : List (List Int) := chunks ks ks.length i f
theorem ch_cons {ks : List Int} {i : Nat} {f : Int → Option Int} (h : i < ks.length) : ch ks i f = chunk ks i (fm ks i f).1 :: ch ks (i + adv (fm ks i f).1) (fm ks i f).2 := by
  unfold ch
  have := adv_pos (fm ks i f).1
  rw [show chunks ks ks.length i f = chunks ks ((ks.length - 1) + 1) i f by rw [show ks.length - 1 + 1 = ks.length by lia], chunks, if_pos h]
  rw [chunks_fuel ks (ks.length - 1) ks.length _ _ (by lia) (by lia)]
theorem ch_nil {ks : List Int} {i : Nat} {f : Int → Option Int} (h : ks.length ≤ i) : ch ks i f = [] := chunks_end h
/-- a thing as the law wants it -/
noncomputable def tOK (ks : List Int) (p : T3) : Prop := ∃ i m o : Nat, p = ((i : Int), (m : Int), (o : Int)) ∧ (o = 0 ∨ (0 < o ∧ o < 1024 ∧ o ≤ i ∧ i + m ≤ ks.length ∧ (m < 66 → i + m < ks.length → gI ks ((i + m : Nat) : Int) ≠ gI ks ((i + m - o : Nat) : Int))))
theorem mapOf_two : ∀ (k : Nat) (cs : List (List Int)), mapOf (k + 1) cs = 2 * mapOf k cs
  | _, [] => rfl
  | k, c :: cs => by
    simp only [mapOf]
    rw [mapOf_two (k + 1) cs]
    have e : (2 : Int) ^ (k + 1) = 2 * 2 ^ k := by rw [Int.pow_succ]; lia
    rw [e]
    split <;> lia
theorem bits_dec {ks Z : List Int} {M : Int} : ∀ (k b i : Nat) (f : Int → Option Int) (T : List T3) (P S : List Int), b + k = 8 → i ≤ ks.length → DOK f i → M / 2 ^ b = mapOf 0 ((ch ks i f).take k) → Z = P ++ (((ch ks i f).take k).flatten ++ S) →
    ∃ i' f' T2, rBits Z ks.length M k b ⟨ks.take i, T, P.length⟩ = some ⟨ks.take i', T ++ T2, P.length + ((ch ks i f).take k).flatten.length⟩ ∧ i ≤ i' ∧ i' ≤ ks.length ∧ DOK f' i' ∧ (ch ks i f).drop k = ch ks i' f' ∧ ∀ p ∈ T2, tOK ks p := by
  intro k
  induction k with
  | zero =>
    intro b i f T P S _ hi hf _ _
    exact ⟨i, f, [], by rw [rBits, List.append_nil]; rfl, Nat.le_refl _, hi, hf, rfl, fun p hp => by cases hp⟩
  | succ k ih =>
    intro b i f T P S hb hi hf hM hZ
    rw [rBits]
    by_cases hlt : i < ks.length
    · rw [ch_cons hlt] at hM hZ ⊢
      rw [List.take_succ_cons] at hM hZ ⊢
      rw [List.drop_succ_cons]
      obtain ⟨q1, q2⟩ := fm_ok (ks := ks) hf hi
      obtain ⟨hadv, hD⟩ := adv_le hf hlt
      have hlen : (ks.take i).length = i := by rw [List.length_take]; lia
      rw [List.flatten_cons] at hZ ⊢
      rw [mapOf, mapOf_two] at hM
      have hdiv : M / 2 ^ (b + 1) = M / 2 ^ b / 2 := by
        rw [Int.pow_succ, Int.ediv_ediv_of_nonneg (Int.le_of_lt (Int.pow_pos (by decide)))]
      unfold rBit
      rw [if_pos (show (ks.take i).length < ks.length by lia)]
      unfold rItem
      dsimp only
      generalize hp : (fm ks i f).1 = p at *
      obtain ⟨m, o⟩ := p
      dsimp only at q1
      by_cases hm : 0 < m
      · have hadv2 : adv (m, o) = m := if_pos hm
        have hc : chunk ks i (m, o) = [((m : Int) - 3) * 4 + (o : Int) / 256, (o : Int) % 256] := if_pos hm
        obtain ⟨m1, m2, m3, m4, m5, m6, m7⟩ : 3 ≤ m ∧ m ≤ 66 ∧ i + m ≤ ks.length ∧ 0 < o ∧ o < 1024 ∧ o ≤ i ∧ m = lcp 66 (ks.drop i) (ks.drop (i - o)) := by
          rcases q1 with q1 | q1
          · cases q1; lia
          · exact q1
        rw [hadv2] at hM hZ hadv hD ⊢
        rw [hc] at hM hZ ⊢
        have c2 : [((m : Int) - 3) * 4 + (o : Int) / 256, (o : Int) % 256].length = 2 := rfl
        have h1 : M / 2 ^ b % 2 = 1 := by
          rw [hM, if_pos c2]; lia
        have h2 : M / 2 ^ (b + 1) = mapOf 0 ((ch ks (i + m) (fm ks i f).2).take k) := by
          rw [hdiv, hM, if_pos c2]; lia
        rw [if_pos h1]
        have hZ2 : Z = (P ++ [((m : Int) - 3) * 4 + (o : Int) / 256, (o : Int) % 256]) ++ (((ch ks (i + m) (fm ks i f).2).take k).flatten ++ S) := by
          rw [hZ, List.append_assoc, List.append_assoc]
        have g0 : gI Z (P.length : Int) = ((m : Int) - 3) * 4 + (o : Int) / 256 := by rw [hZ, List.append_assoc]; exact gI_app rfl
        have g1 : gI Z ((P.length + 1 : Nat) : Int) = (o : Int) % 256 := by
          rw [hZ, List.append_assoc, List.cons_append, List.append_cons]; exact gI_app (by simp)
        have hlZ : P.length + 2 ≤ Z.length := by rw [hZ2, List.length_append, List.length_append]; exact Nat.le_add_right _ _
        rw [if_neg (by lia), g0, g1, hlen]
        have ho : ((((m : Int) - 3) * 4 + (o : Int) / 256) % 4 * 256 + (o : Int) % 256).toNat = o := by lia
        have hmm : (((m : Int) - 3) * 4 + (o : Int) / 256) / 4 + 3 = m := by lia
        rw [ho, hmm, Int.toNat_natCast, if_neg (by lia)]
        rw [cpy_lcp (K := 66) m4 m6 m (Nat.le_of_eq m7) m3]
        obtain ⟨i', f', T2, r1, r2, r3, r4, r5, r6⟩ := ih (b + 1) (i + m) (fm ks i f).2 (T ++ [((i : Int), (m : Int), (o : Int))]) (P ++ [((m : Int) - 3) * 4 + (o : Int) / 256, (o : Int) % 256]) S (by lia) m3 hD h2 hZ2
        refine ⟨i', f', ((i : Int), (m : Int), (o : Int)) :: T2, ?_, by lia, r3, r4, r5, ?_⟩
        · rw [List.length_append] at r1
          rw [List.length_append, ← Nat.add_assoc, List.append_cons T _ T2]
          exact r1
        · intro p hp'
          rcases List.mem_cons.mp hp' with rfl | hp'
          · refine ⟨i, m, o, rfl, .inr ⟨m4, m5, m6, m3, fun u1 u2 => ?_⟩⟩
            have := lcp_max 66 (ks.drop i) (ks.drop (i - o)) (by lia) (by rw [List.length_drop]; lia) (by rw [List.length_drop]; lia)
            rw [getD_drop, getD_drop, ← m7] at this
            rw [show i + m - o = i - o + m by lia]
            exact this
          · exact r6 p hp'
      · have hadv2 : adv (m, o) = 1 := if_neg hm
        have hc : chunk ks i (m, o) = [gI ks i] := if_neg hm
        rw [hadv2] at hM hZ hadv hD ⊢
        rw [hc] at hM hZ ⊢
        have h1 : ¬ M / 2 ^ b % 2 = 1 := by
          rw [hM, if_neg (by simp)]; lia
        have h2 : M / 2 ^ (b + 1) = mapOf 0 ((ch ks (i + 1) (fm ks i f).2).take k) := by
          rw [hdiv, hM, if_neg (by simp)]; lia
        rw [if_neg h1]
        have hZ2 : Z = (P ++ [gI ks i]) ++ (((ch ks (i + 1) (fm ks i f).2).take k).flatten ++ S) := by
          rw [hZ, List.append_assoc, List.append_assoc]
        have g0 : gI Z (P.length : Int) = gI ks i := by rw [hZ, List.append_assoc]; exact gI_app rfl
        have hlZ : P.length + 1 ≤ Z.length := by rw [hZ2, List.length_append, List.length_append]; exact Nat.le_add_right _ _
        rw [if_neg (by lia), g0, hlen, ← take_snoc hlt]
        obtain ⟨i', f', T2, r1, r2, r3, r4, r5, r6⟩ := ih (b + 1) (i + 1) (fm ks i f).2 (T ++ [((i : Int), 1, 0)]) (P ++ [gI ks i]) S (by lia) (by lia) hD h2 hZ2
        refine ⟨i', f', ((i : Int), 1, 0) :: T2, ?_, by lia, r3, r4, r5, ?_⟩
        · rw [List.length_append] at r1
          rw [List.length_append, ← Nat.add_assoc, List.append_cons T _ T2]
          exact r1
        · intro p hp'
          rcases List.mem_cons.mp hp' with rfl | hp'
          · exact ⟨i, 1, 0, rfl, .inl rfl⟩
          · exact r6 p hp'
    · have hn : ch ks i f = [] := ch_nil (by lia)
      rw [hn] at hM hZ ⊢
      rw [List.take_nil] at hM hZ ⊢
      have hM0 : M / 2 ^ b = 0 := hM
      unfold rBit
      rw [if_neg (by dsimp only; rw [List.length_take]; lia)]
      rw [hM0, if_neg (by decide)]
      have hdiv : M / 2 ^ (b + 1) = M / 2 ^ b / 2 := by
        rw [Int.pow_succ, Int.ediv_ediv_of_nonneg (Int.le_of_lt (Int.pow_pos (by decide)))]
      obtain ⟨i', f', T2, r1, r2, r3, r4, r5, r6⟩ := ih (b + 1) i f T P S (by lia) hi hf (by rw [hdiv, hM0, hn, List.take_nil]; rfl) (by rw [hn, List.take_nil]; exact hZ)
      rw [hn, List.take_nil] at r1
      rw [hn, List.drop_nil] at r5
      exact ⟨i', f', T2, r1, r2, r3, r4, by rw [List.drop_nil]; exact r5, r6⟩
end Mine
end
section
/-! text C7 -/
set_option Elab.async false
set_option autoImplicit false
set_option linter.unusedVariables false
set_option linter.unusedSimpArgs false
namespace Mine
theorem rows_dec {ks Z : List Int} : ∀ (n N i : Nat) (f : Int → Option Int) (T : List T3) (P S : List Int), i ≤ ks.length → DOK f i → (ch ks i f).length ≤ n → n < N → Z = P ++ (mapd n (ch ks i f) ++ S) →
    ∃ T2, rd Z ks.length N ⟨ks.take i, T, P.length⟩ = some ⟨ks, T ++ T2, P.length + (mapd n (ch ks i f)).length⟩ ∧ ∀ p ∈ T2, tOK ks p := by
  intro n
  induction n with
  | zero =>
    intro N i f T P S hi hf hl hN hZ
    cases N with
    | zero => lia
    | succ N =>
      have hn : ¬ i < ks.length := fun h => by rw [ch_cons h] at hl; simp at hl
      refine ⟨[], ?_, fun p hp => by cases hp⟩
      rw [rd, if_neg (by dsimp only; rw [List.length_take]; lia), List.append_nil, List.take_of_length_le (by lia)]
      rfl
  | succ n ih =>
    intro N i f T P S hi hf hl hN hZ
    cases N with
    | zero => lia
    | succ N =>
      by_cases hlt : i < ks.length
      · have hne : ∃ c cs, ch ks i f = c :: cs := ⟨_, _, ch_cons hlt⟩
        obtain ⟨c, cs, hc⟩ := hne
        have hm : mapd (n + 1) (ch ks i f) = mapOf 0 ((ch ks i f).take 8) :: (((ch ks i f).take 8).flatten ++ mapd n ((ch ks i f).drop 8)) := by
          rw [hc]; rfl
        have hd8 : ((ch ks i f).drop 8).length ≤ n := by rw [List.length_drop]; lia
        rw [hm] at hZ ⊢
        rw [rd, if_pos (by dsimp only; rw [List.length_take]; lia)]
        have g0 : gI Z (P.length : Int) = mapOf 0 ((ch ks i f).take 8) := by rw [hZ, List.cons_append]; exact gI_app rfl
        unfold rRow
        rw [if_neg (by dsimp only; rw [hZ]; simp)]
        dsimp only
        rw [g0]
        obtain ⟨i', f', T2, r1, r2, r3, r4, r5, r6⟩ := bits_dec (ks := ks) (Z := Z) (M := mapOf 0 ((ch ks i f).take 8)) 8 0 i f T (P ++ [mapOf 0 ((ch ks i f).take 8)]) (mapd n ((ch ks i f).drop 8) ++ S) rfl hi hf (by simp) (by rw [hZ]; simp)
        have hP1 : (P ++ [mapOf 0 ((ch ks i f).take 8)]).length = P.length + 1 := by simp
        rw [hP1] at r1
        rw [r1]
        rw [r5] at hZ hd8 ⊢
        obtain ⟨T3, s1, s2⟩ := ih N i' f' (T ++ T2) (P ++ (mapOf 0 ((ch ks i f).take 8) :: ((ch ks i f).take 8).flatten)) S r3 r4 hd8 (by lia) (by rw [hZ]; simp)
        have hP2 : (P ++ (mapOf 0 ((ch ks i f).take 8) :: ((ch ks i f).take 8).flatten)).length = P.length + 1 + ((ch ks i f).take 8).flatten.length := by simp; lia
        rw [hP2] at s1
        refine ⟨T2 ++ T3, ?_, fun p hp => ?_⟩
        · show rd Z ks.length N _ = _
          rw [s1]
          simp
          lia
        · rcases List.mem_append.mp hp with hp | hp
          · exact r6 p hp
          · exact s2 p hp
      · have hn : ch ks i f = [] := ch_nil (by lia)
        refine ⟨[], ?_, fun p hp => by cases hp⟩
        rw [rd, if_neg (by dsimp only; rw [List.length_take]; lia), List.append_nil, List.take_of_length_le (by lia), hn]
        rfl
theorem read_packed {ks S : List Int} (hZ : OB (packed ks ++ S)) : ∃ T, rdd (packed ks ++ S) ks.length = some ⟨ks, T, (packed ks).length⟩ ∧ ∀ p ∈ T, tOK ks p := by
  have hc := chunks_len ks ks.length 0 (fun _ => none) (Nat.zero_le _) (fun y b e => by cases e)
  obtain ⟨T, h1, h2⟩ := rows_dec (ks := ks) (Z := packed ks ++ S) ks.length ((packed ks ++ S).length + ks.length + 1) 0 (fun _ => none) [] [] S (Nat.zero_le _) (fun y b e => by cases e) (by unfold ch; lia) (by lia) rfl
  refine ⟨T, ?_, h2⟩
  unfold rdd
  rw [rd_fuel hZ _ ((packed ks ++ S).length + ks.length + 1) ⟨[], [], 0⟩ (fun x hx => by cases hx) (Nat.zero_le _) (Nat.zero_le _) (by dsimp only; lia) (by dsimp only; lia)]
  rw [List.take_zero] at h1
  refine h1.trans ?_
  show some (RX.mk ks ([] ++ T) (([] : List Int).length + (mapd ks.length (ch ks 0 fun _ => none)).length)) = _
  rw [List.nil_append, List.length_nil, Nat.zero_add]
  rfl
theorem unpacked_packed {ks S : List Int} (hZ : OB (packed ks ++ S)) : unpacked (packed ks ++ S) ks.length = some ks := by
  obtain ⟨T, h, _⟩ := read_packed hZ
  rw [← rdd_sim hZ, h, Option.map_some, List.take_of_length_le (Nat.le_refl _)]
theorem ob_app {a b : List Int} (ha : OB a) (hb : OB b) : OB (a ++ b) := fun x hx => by
  rcases List.mem_append.mp hx with hx | hx
  · exact ha x hx
  · exact hb x hx
theorem mapd_ob : ∀ (n : Nat) (cs : List (List Int)), (∀ c ∈ cs, OB c) → OB (mapd n cs)
  | 0, _, _ => fun x hx => by simp [mapd] at hx
  | n + 1, [], _ => fun x hx => by simp [mapd] at hx
  | n + 1, c :: cs, h => by
    simp only [mapd]
    refine ob_app (fun x hx => ?_) (mapd_ob n _ fun d hd => h d (List.mem_of_mem_drop hd))
    unfold grp at hx
    rcases List.mem_cons.mp hx with rfl | hx
    · have h1 := mapOf_le 0 ((c :: cs).take 8)
      have h2 : ((c :: cs).take 8).length ≤ 8 := by rw [List.length_take]; lia
      have h3 : (2 : Int) ^ (0 + ((c :: cs).take 8).length) ≤ 256 := by
        have key : ∀ l : Nat, l ≤ 8 → (2 : Int) ^ (0 + l) ≤ 256 := by decide
        exact key _ h2
      have h0 : (2 : Int) ^ 0 = 1 := rfl
      lia
    · obtain ⟨d, hd, hx⟩ := List.mem_flatten.mp hx
      exact h d (List.mem_of_mem_take hd) x hx
theorem chunk_ob {ks : List Int} {i : Nat} {f : Int → Option Int} (hk : OB ks) (hf : DOK f i) (hi : i ≤ ks.length) : OB (chunk ks i (fm ks i f).1) := by
  have q := (fm_ok hf hi).1
  unfold chunk
  split
  · rcases q with q | q
    · rename_i h; rw [q] at h; simp at h
    · intro x hx
      rcases List.mem_cons.mp hx with rfl | hx
      · lia
      · rw [List.mem_singleton.mp hx]; lia
  · intro x hx
    rw [List.mem_singleton.mp hx]; exact gI_ob hk _
theorem chunks_ob {ks : List Int} (hk : OB ks) : ∀ (n i : Nat) (f : Int → Option Int), DOK f i → ∀ c ∈ chunks ks n i f, OB c
  | 0, _, _, _, c, hc => by simp [chunks] at hc
  | n + 1, i, f, hf, c, hc => by
    simp only [chunks] at hc
    split at hc
    · rename_i h
      rcases List.mem_cons.mp hc with rfl | hc
      · exact chunk_ob hk hf (by lia)
      · exact chunks_ob hk n _ _ (adv_le hf h).2 c hc
    · cases hc
theorem packed_ob {ks : List Int} (hk : OB ks) : OB (packed ks) := mapd_ob _ _ (chunks_ob hk _ _ _ fun y b e => by cases e)
theorem packed_pos {ks : List Int} (h : ks ≠ []) : 0 < (packed ks).length := by
  have h0 : 0 < ks.length := List.length_pos_iff.mpr h
  have hc := chunks_len ks ks.length 0 (fun _ => none) (Nat.zero_le _) (fun y b e => by cases e)
  have := mapd_len ks.length (chunks ks ks.length 0 fun _ => none) (by lia) (by
    have := ch_cons (ks := ks) (i := 0) (f := fun _ => none) h0
    unfold ch at this
    rw [this]; simp)
  unfold packed
  lia
/-! heard -/
theorem heard_eq {ks : List Int} {z : Nat} {st : St} (hk : OB ks) (hl : ks.length ≤ 4000) (hz : z ≤ 4000) :
    f_law_heard [.bytes ks, .int z] st = .ok (match unpacked ks z with | none => .none | some G => .bytes G) st := by
  have h := a_unpack (st := ⟨[some (.bytes ks), some (.int (z : Int))], []⟩) hk hl hz
  cases hu : unpacked ks z with
  | none =>
    rw [hu] at h
    dsimp only at h ⊢
    have e : d_law_heard ⟨[some (.bytes ks), some (.int (z : Int))], []⟩ = .ok (.ret .none) ⟨[], []⟩ := by
      unfold d_law_heard
      refine seq_ret ?_
      simp (disch := lia) only [mTryNone, mCall, mCons, mLoc, List.getElem?_cons_zero, mNil, R_bind_ok, List.getElem?_cons_succ, h, List.length_nil, if_true]
    simp (disch := lia) only [f_law_heard, fCall, fRet, fBeg, List.length_cons, List.length_nil, Nat.reduceAdd, Bool.false_eq_true, flats, V.flat, Bool.and_self, or_true, and_self, List.map_cons, List.map_nil, List.replicate, List.append_nil, if_false, e, deref, retV, deref1, R_bind_ok, if_true]
  | some G =>
    rw [hu] at h
    dsimp only at h ⊢
    have e : d_law_heard ⟨[some (.bytes ks), some (.int (z : Int))], []⟩ = .ok (.ret (.bytes G)) ⟨[some (.bytes ks), some (.int (z : Int))], []⟩ := by
      unfold d_law_heard
      refine seq_ret ?_
      simp (disch := lia) only [mTryNone, mCall, mCons, mLoc, List.getElem?_cons_zero, mNil, R_bind_ok, List.getElem?_cons_succ, h]
    simp (disch := lia) only [f_law_heard, fCall, fRet, fBeg, List.length_cons, List.length_nil, Nat.reduceAdd, Bool.false_eq_true, flats, V.flat, Bool.and_self, or_true, and_self, List.map_cons, List.map_nil, List.replicate, List.append_nil, if_false, e, deref, retV, deref1, R_bind_ok, if_true]
end Mine
end
section
/-! text C8 -/
set_option Elab.async false
set_option autoImplicit false
set_option linter.unusedVariables false
set_option linter.unusedSimpArgs false
namespace Mine
/-! comprehensions -/
theorem get_last (cs : List Cell) (c : Cell) : (cs ++ [c])[cs.length]? = some c := by simp
theorem set_last (cs : List Cell) (c d : Cell) : (cs ++ [c]).set cs.length d = cs ++ [d] := by
  induction cs with
  | nil => rfl
  | cons a cs ih => simp only [List.cons_append, List.length_cons, List.set_cons_succ, ih]
theorem compI_loop {src : Src} {asg : V → Mo Unit} {t : Mo Bool} {e : Mo V} {cs : List Cell} {nl N : Nat} (val : Nat → V) (keep : Nat → Bool) (out : Nat → V) (hN : N ≤ 1048576)
    (hsrc : ∀ i l ws, i ≤ N → srcAt src i ⟨l, cs ++ [.list ws]⟩ = some (if i < N then some (val i) else none))
    (hstep : ∀ i l ws, i < N → l.length = nl → ∃ l', l'.length = nl ∧ asg (val i) ⟨l, cs ++ [.list ws]⟩ = .ok () ⟨l', cs ++ [.list ws]⟩ ∧ t ⟨l', cs ++ [.list ws]⟩ = .ok (keep i) ⟨l', cs ++ [.list ws]⟩ ∧ (keep i = true → e ⟨l', cs ++ [.list ws]⟩ = .ok (out i) ⟨l', cs ++ [.list ws]⟩)) :
    ∀ n i l, i ≤ N → N - i < n → l.length = nl → ∃ l', mCompI src asg t e cs.length n i ⟨l, cs ++ [.list (((List.range i).filter keep).map out)]⟩ = .ok () ⟨l', cs ++ [.list (((List.range N).filter keep).map out)]⟩ := by
  intro n
  induction n with
  | zero => intro i l _ h; lia
  | succ n ih =>
    intro i l hi hn hl
    unfold mCompI
    rw [hsrc i l _ hi]
    by_cases hlt : i < N
    · rw [if_pos hlt]
      obtain ⟨l', h1, h2, h3, h4⟩ := hstep i l (((List.range i).filter keep).map out) hlt hl
      obtain ⟨l2, h5⟩ := ih (i + 1) l' (by lia) (by lia) h1
      refine ⟨l2, ?_⟩
      rw [← h5]
      simp only [h2, h3, nx_ok, R_bind_ok]
      rw [List.range_succ, List.filter_append]
      cases hk : keep i with
      | false =>
        simp only [List.filter_cons, hk, List.filter_nil, Bool.false_eq_true, if_false, List.append_nil]
      | true =>
        have hlen : (((List.range i).filter keep).map out).length ≤ 1048576 := by
          rw [List.length_map]
          have := List.length_filter_le keep (List.range i)
          rw [List.length_range] at this
          lia
        simp only [List.filter_cons, hk, List.filter_nil, if_true, h4 hk, nx_ok, R_bind_ok, fAppend, get_last, set_last, List.map_append, List.map_cons, List.map_nil]
        rw [if_pos hlen]
        simp only [nx_ok, R_bind_ok]
    · rw [if_neg hlt]
      obtain rfl : i = N := by lia
      exact ⟨l, rfl⟩
theorem comp_spec {d : Mo V} {src : Src} {asg : V → Mo Unit} {t : Mo Bool} {e : Mo V} {nl N : Nat} {st : St} {v : V} (val : Nat → V) (keep : Nat → Bool) (out : Nat → V) (hN : N ≤ 1048576)
    (hd : d st = .ok v st) (hs : srcOf v st = .ok src st) (hf : srcFuel src st = N + 1) (hflat : st.cells.all Cell.flat = true) (hout : flats (((List.range N).filter keep).map out) = true)
    (hsrc : ∀ i l ws, i ≤ N → srcAt src i ⟨l, st.cells ++ [.list ws]⟩ = some (if i < N then some (val i) else none))
    (hstep : ∀ i l ws, i < N → l.length = nl → ∃ l', l'.length = nl ∧ asg (val i) ⟨l, st.cells ++ [.list ws]⟩ = .ok () ⟨l', st.cells ++ [.list ws]⟩ ∧ t ⟨l', st.cells ++ [.list ws]⟩ = .ok (keep i) ⟨l', st.cells ++ [.list ws]⟩ ∧ (keep i = true → e ⟨l', st.cells ++ [.list ws]⟩ = .ok (out i) ⟨l', st.cells ++ [.list ws]⟩)) :
    mComp d nl asg t e st = .ok (.lst (((List.range N).filter keep).map out)) st := by
  obtain ⟨l', h⟩ := compI_loop val keep out hN hsrc hstep (N + 1) 0 (List.replicate nl none) (Nat.zero_le _) (by lia) (List.length_replicate ..)
  have h0 : (((List.range 0).filter keep).map out) = [] := rfl
  rw [h0] at h
  unfold mComp
  simp only [hd, hs, hf, R_bind_ok, h]
  rw [if_pos ⟨by simp, by rw [List.take_left' rfl]; exact hflat⟩, get_last]
  dsimp only
  rw [if_pos hout, List.take_left' rfl]
theorem src_ints {ns : List Int} {i : Nat} {st : St} (h : i ≤ ns.length) : srcAt (.list (.lst (ns.map .int))) i st = some (if i < ns.length then some (.int (gI ns i)) else none) := by
  simp only [srcAt, listOf, Option.map_some, List.getElem?_map]
  by_cases hi : i < ns.length
  · rw [if_pos hi, List.getElem?_eq_getElem hi, gI_get hi]; rfl
  · rw [if_neg hi, List.getElem?_eq_none (by lia)]; rfl
theorem src_rgn {k i : Nat} {st : St} : srcAt (.rgn 0 1 k) i st = some (if i < k then some (.int (i : Int)) else none) := by
  simp only [srcAt]
  rw [show (0 : Int) + (i : Int) * 1 = i by lia]
  split <;> rfl
theorem filter_all (n : Nat) : (List.range n).filter (fun _ => true) = List.range n := List.filter_eq_self.mpr fun _ _ => rfl
theorem flats_ints : ∀ ns : List Int, flats (ns.map .int) = true
  | [] => rfl
  | n :: ns => by simp only [List.map_cons, flats, flats_ints ns, V.flat, Bool.and_true]
/-! octets -/
noncomputable def oC : Mo V := (mComp (mCall fRange (mCons (mBin .Add (mBin .Mod (mBox 0) (mInt 9)) (mInt 1)) (mNil))) 1 (setTG (.loc 0)) ((fun st => .ok true st)) (mBin .Mod (mBin .Mult (mBox 0) (mBin .Add (mLoc 0) (mInt 3))) (mInt 251)))
theorem o_elt {M i : Int} {ws : List V} (h : 0 ≤ i ∧ i < 1000) : (mBin .Mod (mBin .Mult (mBox 0) (mBin .Add (mLoc 0) (mInt 3))) (mInt 251)) ⟨[some (.int i)], [.box (some (.int M)), .list ws]⟩ = .ok (.int (M * (i + 3) % 251)) ⟨[some (.int i)], [.box (some (.int M)), .list ws]⟩ := by
  simp (disch := lia) only [mBin, mBox, List.getElem?_cons_zero, mLoc, mInt, R_bind_ok, bin_add, bin_mul, bin_mod]
theorem o_comp {l : List (Option V)} {M : Int} (hM : 0 ≤ M) : oC ⟨l, [.box (some (.int M))]⟩ = .ok (.lst (((List.range (M % 9 + 1).toNat).map fun k : Nat => M * ((k : Int) + 3) % 251).map .int)) ⟨l, [.box (some (.int M))]⟩ := by
  have hN : M % 9 + 1 = (((M % 9 + 1).toNat : Nat) : Int) := by lia
  have hN2 : (M % 9 + 1).toNat ≤ 100 := by lia
  have hfl : ∀ n : Nat, flats ((List.range n).map fun k : Nat => V.int (M * ((k : Int) + 3) % 251)) = true := by
    intro n
    have := flats_ints ((List.range n).map fun k : Nat => M * ((k : Int) + 3) % 251)
    rw [List.map_map] at this
    exact this
  rw [List.map_map]
  have key := comp_spec (d := (mCall fRange (mCons (mBin .Add (mBin .Mod (mBox 0) (mInt 9)) (mInt 1)) (mNil)))) (src := .rgn 0 1 (M % 9 + 1).toNat) (asg := setTG (.loc 0)) (t := fun st => .ok true st)
    (e := (mBin .Mod (mBin .Mult (mBox 0) (mBin .Add (mLoc 0) (mInt 3))) (mInt 251))) (nl := 1) (N := (M % 9 + 1).toNat) (st := ⟨l, [.box (some (.int M))]⟩) (v := .rng 0 (((M % 9 + 1).toNat : Nat) : Int) 1)
    (fun i => .int (i : Int)) (fun _ => true) (fun k => .int (M * ((k : Int) + 3) % 251)) (by lia) (by rw [← hN]; simp (disch := lia) only [mCall, mCons, mBin, mBox, List.getElem?_cons_zero, mInt, R_bind_ok, bin_mod, bin_add, mNil, fRange]) (src_rng (by lia)) rfl rfl (by rw [filter_all]; exact hfl _) (fun i l ws _ => src_rgn) (by
      intro i l ws hi hl
      obtain ⟨a, rfl⟩ : ∃ a, l = [a] := by
        cases l with
        | nil => simp at hl
        | cons a l => cases l with
          | nil => exact ⟨a, rfl⟩
          | cons b l => simp at hl
      refine ⟨[some (.int (i : Int))], rfl, rfl, rfl, fun _ => ?_⟩
      exact o_elt (by lia))
  rw [filter_all] at key
  exact key
noncomputable def oA : Mo FV := (mAsgT [.loc 3, .box 0] (mTup (mCons (mBin .Mod (mCall fAbs (mCons (mLoc 2) (mNil))) (mInt 3)) (mCons (mBin .FloorDiv (mCall fAbs (mCons (mLoc 2) (mNil))) (mInt 3)) (mNil)))))
noncomputable def o1 : Mo FV := (mSeq (mAsg 1 (mBin .Add (mLoc 1) (mCall fBytes (mCons oC (mNil))))) (mNext))
noncomputable def o2 : Mo FV := (mSeq (mAsg 4 (mBin .Mod (mBox 0) (mCall fLen (mCons (mLoc 1) (mNil))))) (mSeq (mAsg 1 (mBin .Add (mLoc 1) (mSlice (mLoc 1) (mPair (mSome (mLoc 4)) (mSome (mBin .Add (mBin .Add (mLoc 4) (mInt 3)) (mBin .Mod (mBin .FloorDiv (mBox 0) (mInt 7)) (mInt 80)))))))) (mNext)))
noncomputable def o3 : Mo FV := (mSeq (mAsg 1 (mBin .Add (mLoc 1) (mBin .Mult (mCall fBytes (mCons (mLst (mCons (mBin .Mod (mBox 0) (mInt 5)) (mNil))) (mNil))) (mBin .Add (mBin .Mod (mBox 0) (mInt 90)) (mInt 1))))) (mNext))
noncomputable def oI : Mo FV := (mIfS (mTruth (mCmp .Eq (mLoc 3) (mInt 0))) o1 (mSeq (mIfS (mAnd (mTruth (mCmp .Eq (mLoc 3) (mInt 1))) (mAnd (mTruth (mCmp .NotEq (mLoc 1) (mV (.bytes [])))) ((fun st => .ok true st)))) o2 o3) (mNext)))
noncomputable def oBody : Mo FV := mSeq oA (mSeq oI mNext)
noncomputable def osto (S : Option V) (o : List Int) (n a b : Option V) (u : Option V) : St := ⟨[S, some (.bytes o), n, a, b], [.box u]⟩
theorem mul_bytes {c n : Int} {st : St} (h : 0 ≤ n ∧ n ≤ 1048576) : binV .Mult (.bytes [c]) (.int n) st = .ok (.bytes (List.replicate n.toNat c)) st := if_pos ⟨rfl, h⟩
theorem ob_rep {c : Int} (h : 0 ≤ c ∧ c < 256) (n : Nat) : OB (List.replicate n c) := fun x hx => by rw [List.eq_of_mem_replicate hx]; exact h
theorem o_turn {S a b u : Option V} {o : List Int} {n : Int} (ho : OB o) (hl : o.length ≤ 1000) :
    ∃ o' a' b' u', OB o' ∧ o'.length ≤ o.length + 90 ∧ oBody (osto S o (some (.int n)) a b u) = .ok .next (osto S o' (some (.int n)) a' b' u') := by
  have hA : ∃ w M : Int, 0 ≤ M ∧ 0 ≤ w ∧ w < 3 ∧ oA (osto S o (some (.int n)) a b u) = .ok .next (osto S o (some (.int n)) (some (.int w)) b (some (.int M))) := by
    refine ⟨(if n < 0 then -n else n) % 3, (if n < 0 then -n else n) / 3, by split <;> lia, by split <;> lia, by split <;> lia, ?_⟩
    simp (disch := lia) only [oA, mAsgT, mTup, mCons, mBin, mCall, mLoc, osto, List.getElem?_cons_succ, List.getElem?_cons_zero, mNil, R_bind_ok, fAbs, mInt, bin_mod, bin_div, List.length_cons, List.length_nil, Nat.reduceAdd, Nat.reduceLeDiff, if_true, setTGs, setTG, mSet, List.set_cons_succ, List.set_cons_zero, mSetBox, isBox]
  obtain ⟨w, M, hM, hw0, hw3, hA⟩ := hA
  have hfin : ∀ o' a' b' u', OB o' → o'.length ≤ o.length + 90 → oI (osto S o (some (.int n)) (some (.int w)) b (some (.int M))) = .ok .next (osto S o' (some (.int n)) a' b' u') → ∃ o' a' b' u', OB o' ∧ o'.length ≤ o.length + 90 ∧ oBody (osto S o (some (.int n)) a b u) = .ok .next (osto S o' (some (.int n)) a' b' u') := by
    intro o' a' b' u' h1 h2 h3
    refine ⟨o', a', b', u', h1, h2, ?_⟩
    unfold oBody
    rw [seq_next hA, seq_next h3]
    rfl
  by_cases w0 : w = 0
  · subst w0
    have hc := fun l => o_comp (l := l) hM
    have hob : OB ((List.range (M % 9 + 1).toNat).map fun k : Nat => M * ((k : Int) + 3) % 251) := by
      intro x hx
      obtain ⟨k, _, rfl⟩ := List.mem_map.mp hx
      generalize M * ((k : Int) + 3) = q
      lia
    have hlen : ((List.range (M % 9 + 1).toNat).map fun k : Nat => M * ((k : Int) + 3) % 251).length ≤ 9 := by
      rw [List.length_map, List.length_range]; lia
    generalize ((List.range (M % 9 + 1).toNat).map fun k : Nat => M * ((k : Int) + 3) % 251) = C at *
    have hb := fun st => bytes_ints (ns := C) (st := st) hob (by lia)
    refine hfin (o ++ C) (some (.int 0)) b (some (.int M)) (ob_app ho hob) (by rw [List.length_append]; lia) ?_
    have e0 : ((0 : Int) == 0) = true := rfl
    simp (disch := lia) only [oI, mIfS, mTruth, mCmp, mLoc, osto, List.getElem?_cons_succ, List.getElem?_cons_zero, mInt, cmpV, eqV, neV, ordV, isV, isNotV, R_bind_ok, e0, truthV, o1, mSeq, mAsg, mBin, mCall, mCons, mNil, mNext, mAnd, mV, hc, hb, bin_cat, List.set_cons_succ, List.set_cons_zero, if_true]
  · have e0 : (w == 0) = false := beq_false_of_ne w0
    by_cases w1 : w = 1 ∧ o ≠ []
    · obtain ⟨w1, hne⟩ := w1
      subst w1
      have e1 : ((1 : Int) == 1) = true := rfl
      have e2 : (o != ([] : List Int)) = true := bne_iff_ne.mpr hne
      have hpos : 0 < o.length := List.length_pos_iff.mpr hne
      have hpos' : (0 : Int) < o.length := by omega
      have hb0 := Int.emod_nonneg M (show (o.length : Int) ≠ 0 by omega)
      have hb1 := Int.emod_lt_of_pos M hpos'
      have hcut : cutV o (some (M % o.length)) (some (M % o.length + 3 + M / 7 % 80)) = (o.drop (M % o.length).toNat).take (3 + M / 7 % 80).toNat := by
        have := cut_nat (ks := o) (M % o.length).toNat ((M % o.length).toNat + (3 + M / 7 % 80).toNat)
        rw [show (((M % o.length).toNat : Nat) : Int) = M % o.length by omega, show (((M % o.length).toNat + (3 + M / 7 % 80).toNat : Nat) : Int) = M % o.length + 3 + M / 7 % 80 by omega, show (M % o.length).toNat + (3 + M / 7 % 80).toNat - (M % o.length).toNat = (3 + M / 7 % 80).toNat by omega] at this
        exact this
      have hcl : ((o.drop (M % o.length).toNat).take (3 + M / 7 % 80).toNat).length ≤ 82 := by rw [List.length_take]; omega
      refine hfin (o ++ (o.drop (M % o.length).toNat).take (3 + M / 7 % 80).toNat) (some (.int 1)) (some (.int (M % o.length))) (some (.int M)) (ob_app ho fun x hx => ho x (List.mem_of_mem_drop (List.mem_of_mem_take hx))) (by rw [List.length_append]; omega) ?_
      simp (disch := omega) only [oI, mIfS, mTruth, mCmp, mLoc, osto, List.getElem?_cons_succ, List.getElem?_cons_zero, mInt, cmpV, eqV, neV, ordV, isV, isNotV, R_bind_ok, e0, truthV, mSeq, mAnd, mV, o2, mAsg, mBin, mBox, mCall, mCons, mNil, mSlice, mPair, mSome, mNext, Bool.false_eq_true, e1, e2, if_true, len_bytes, bin_mod, List.set_cons_succ, List.set_cons_zero, bin_add, bin_div, slice_bytes, hcut, bin_cat, if_false]
    · have e1 : (w == 1) = true → (o != ([] : List Int)) = false := by
        intro h
        have hw : w = 1 := eq_of_beq h
        have : o = [] := Classical.byContradiction fun h => w1 ⟨hw, h⟩
        rw [this]; rfl
      have h5 : ∀ st, fBytes [.lst [.int (M % 5)]] st = .ok (.bytes [M % 5]) st := fun st => bytes_one (by omega)
      have hm := fun st => mul_bytes (c := M % 5) (n := M % 90 + 1) (st := st) (by omega)
      have hrl : (List.replicate (M % 90 + 1).toNat (M % 5)).length ≤ 90 := by rw [List.length_replicate]; omega
      have hro : OB (List.replicate (M % 90 + 1).toNat (M % 5)) := ob_rep (by omega) _
      generalize List.replicate (M % 90 + 1).toNat (M % 5) = C at *
      refine hfin (o ++ C) (some (.int w)) b (some (.int M)) (ob_app ho hro) (by rw [List.length_append]; omega) ?_
      cases hw : (w == 1) with
      | false => simp (disch := omega) only [oI, mIfS, mTruth, mCmp, mLoc, osto, List.getElem?_cons_succ, List.getElem?_cons_zero, mInt, cmpV, eqV, neV, ordV, isV, isNotV, R_bind_ok, e0, truthV, mSeq, mAnd, mV, o3, mAsg, mBin, mCall, mCons, mLst, mBox, mNil, mNext, Bool.false_eq_true, hw, if_false, bin_mod, List.length_cons, List.length_nil, Nat.reduceAdd, Nat.reduceLeDiff, if_true, h5, bin_add, hm, bin_cat, List.set_cons_succ, List.set_cons_zero]
      | true =>
        have e1 := e1 hw
        simp (disch := omega) only [oI, mIfS, mTruth, mCmp, mLoc, osto, List.getElem?_cons_succ, List.getElem?_cons_zero, mInt, cmpV, eqV, neV, ordV, isV, isNotV, R_bind_ok, e0, truthV, mSeq, mAnd, mV, o3, mAsg, mBin, mCall, mCons, mLst, mBox, mNil, mNext, Bool.false_eq_true, hw, e1, if_false, if_true, bin_mod, List.length_cons, List.length_nil, Nat.reduceAdd, Nat.reduceLeDiff, h5, bin_add, hm, bin_cat, List.set_cons_succ, List.set_cons_zero]
end Mine
end
section
/-! text C9 -/
set_option Elab.async false
set_option autoImplicit false
set_option linter.unusedVariables false
set_option linter.unusedSimpArgs false
namespace Mine
theorem slice_lst {vs : List V} {p : Option Int × Option Int} {st : St} (h : vs.length ≤ 1048576) : sliceV (.lst vs) p st = .ok (.lst (cutV vs p.1 p.2)) st := if_pos h
theorem src_lst {vs : List V} {st : St} (h : vs.length ≤ 1048576) : srcOf (.lst vs) st = .ok (.list (.lst vs)) st := if_pos h
noncomputable def oFor : Mo FV := mForS (mSlice (mLoc 0) (mPair (mNone) (mSome (mInt 7)))) (setTG (.loc 2)) oBody
noncomputable def oEnd : Mo FV := (mSeq (mRet (mSlice (mLoc 1) (mPair (mNone) (mSome (mInt 128))))) (mNext))
theorem octets_eq : d_law_octets = mSeq (mAsg 1 (mV (.bytes []))) (mSeq oFor oEnd) := by
  unfold d_law_octets oFor oEnd oBody oA oI o1 o2 o3 oC
  rfl
theorem o_for {ns : List Int} (hl : ns.length ≤ 63) : ∃ o n a b u, OB o ∧ o.length ≤ 700 ∧ oFor (osto (some (.lst (ns.map .int))) [] none none none none) = .ok .next (osto (some (.lst (ns.map .int))) o n a b u) := by
  have hs : ∀ st, sliceV (.lst (ns.map .int)) (none, some 7) st = .ok (.lst ((ns.take 7).map .int)) st := by
    intro st
    rw [slice_lst (by rw [List.length_map]; lia)]
    have := cut_to 7 (ns.map V.int)
    dsimp only
    rw [List.map_take, ← this]
    rfl
  have hml : (ns.take 7).length ≤ 7 := by rw [List.length_take]; lia
  generalize ns.take 7 = ms at *
  have hr : ∀ st, srcOf (.lst (ms.map .int)) st = .ok (.list (.lst (ms.map .int))) st := fun st => src_lst (by rw [List.length_map]; lia)
  let X := List Int × Option V × Option V × Option V × Option V
  have key := for_spec (X := X) (src := .list (.lst (ms.map .int))) (asg := setTG (.loc 2)) (b := oBody) (fun x => osto (some (.lst (ns.map .int))) x.1 x.2.1 x.2.2.1 x.2.2.2.1 x.2.2.2.2) ms.length (fun i => .int (gI ms i)) (fun i x => OB x.1 ∧ x.1.length ≤ 90 * i) (fun r => ∃ o n a b u, OB o ∧ o.length ≤ 700 ∧ r = .ok .next (osto (some (.lst (ns.map .int))) o n a b u))
    (fun i x _ h => src_ints h) (by
      rintro i ⟨o, n, a, b, u⟩ hi ⟨h1, h2⟩
      dsimp only at *
      refine ⟨osto (some (.lst (ns.map .int))) o (some (.int (gI ms i))) a b u, rfl, .inl ?_⟩
      obtain ⟨o', a', b', u', q1, q2, q3⟩ := o_turn (S := some (.lst (ns.map .int))) (a := a) (b := b) (u := u) (n := gI ms i) h1 (by lia)
      exact ⟨(o', some (.int (gI ms i)), a', b', u'), q3, q1, by dsimp only; lia⟩) (by
      rintro ⟨o, n, a, b, u⟩ ⟨h1, h2⟩
      dsimp only at *
      exact ⟨o, n, a, b, u, h1, by lia, rfl⟩) (ms.length + 1) 0 ([], none, none, none, none) ⟨fun x hx => (by cases hx), Nat.zero_le _⟩ (Nat.zero_le _) (by lia)
  obtain ⟨o, n, a, b, u, h1, h2, h3⟩ := key
  refine ⟨o, n, a, b, u, h1, h2, ?_⟩
  rw [← h3]
  have hf : ∀ st, srcFuel (.list (.lst (ms.map .int))) st = ms.length + 1 := by
    intro st
    show (ms.map V.int).length + 1 = _
    rw [List.length_map]
  simp (disch := omega) only [oFor, mForS, mSlice, mLoc, osto, List.getElem?_cons_zero, mPair, mNone, mSome, mInt, R_bind_ok, hs, hr, hf]
theorem a_octets {ns : List Int} (hl : ns.length ≤ 63) : ∃ o, OB o ∧ o.length ≤ 128 ∧ ∀ st, f_law_octets [.lst (ns.map .int)] st = .ok (.bytes o) st := by
  obtain ⟨o, n, a, b, u, h1, h2, h3⟩ := o_for hl
  refine ⟨o.take 128, fun x hx => h1 x (List.mem_of_mem_take hx), by rw [List.length_take]; lia, fun st => ?_⟩
  have hc : cutV o none (some 128) = o.take 128 := cut_to 128 o
  have hE : oEnd (osto (some (.lst (ns.map .int))) o n a b u) = .ok (.ret (.bytes (o.take 128))) (osto (some (.lst (ns.map .int))) o n a b u) := by
    simp (disch := omega) only [oEnd, mSeq, mRet, mSlice, mLoc, osto, List.getElem?_cons_succ, List.getElem?_cons_zero, mPair, mNone, mSome, mInt, R_bind_ok, slice_bytes, hc, mNext]
  have hd : d_law_octets ⟨[some (.lst (ns.map .int)), none, none, none, none], [.box none]⟩ = .ok (.ret (.bytes (o.take 128))) (osto (some (.lst (ns.map .int))) o n a b u) := by
    rw [octets_eq, seq_next (a := mAsg 1 (mV (.bytes []))) (st' := osto (some (.lst (ns.map .int))) [] none none none none) rfl, seq_next h3, hE]
  simp (disch := omega) only [f_law_octets, fCall, fRet, fBeg, List.length_cons, List.length_nil, Nat.reduceAdd, Bool.false_eq_true, flats, V.flat, flats_ints, Bool.and_self, or_true, and_self, List.map_cons, List.map_nil, List.replicate, List.cons_append, List.nil_append, if_false, hd, deref, retV, deref1, R_bind_ok, if_true]
/-! conditions, one after the other -/
theorem and_t {a b : Mo Bool} {st st' : St} (h : a st = .ok true st') : mAnd a b st = b st' := by simp only [mAnd, h, R_bind_ok, if_true]
theorem and_f {a b : Mo Bool} {st st' : St} (h : a st = .ok false st') : mAnd a b st = .ok false st' := by simp only [mAnd, h, R_bind_ok, Bool.false_eq_true, if_false]
theorem or_f {a b : Mo Bool} {st st' : St} (h : a st = .ok false st') : mOr a b st = b st' := by simp only [mOr, h, R_bind_ok, Bool.false_eq_true, if_false]
theorem ifS_t {t : Mo Bool} {a b : Mo FV} {st st' : St} (h : t st = .ok true st') : mIfS t a b st = a st' := by simp only [mIfS, h, R_bind_ok, if_true]
theorem ifS_f {t : Mo Bool} {a b : Mo FV} {st st' : St} (h : t st = .ok false st') : mIfS t a b st = b st' := by simp only [mIfS, h, R_bind_ok, Bool.false_eq_true, if_false]
/-! things -/
noncomputable def tB1 : Mo FV := (mIfS (mOr (mTruth (mCmp .Gt (mLoc 4) (mInt 1023))) (mOr (mAnd (mTruth (mCmp .Gt (mLoc 4) (mInt 0))) (mAnd (mTruth (mCmp .Gt (mBin .Add (mLoc 2) (mLoc 3)) (mCall fLen (mCons (mLoc 0) (mNil))))) ((fun st => .ok true st)))) ((fun st => .ok false st)))) (mSeq (mRet (mV (.bool false))) (mNext)) (mNext))
noncomputable def tB2 : Mo FV := (mIfS (mAnd (mTruth (mCmp .Gt (mLoc 4) (mInt 0))) (mAnd (mTruth (mCmp .Lt (mLoc 3) (mInt 66))) (mAnd (mTruth (mCmp .Lt (mBin .Add (mLoc 2) (mLoc 3)) (mCall fLen (mCons (mLoc 0) (mNil))))) (mAnd (mTruth (mCmp .Eq (mSub (mLoc 0) (mBin .Add (mLoc 2) (mLoc 3))) (mSub (mLoc 0) (mBin .Sub (mBin .Add (mLoc 2) (mLoc 3)) (mLoc 4))))) ((fun st => .ok true st)))))) (mSeq (mRet (mV (.bool false))) (mNext)) (mNext))
noncomputable def tBody : Mo FV := mSeq tB1 (mSeq tB2 mNext)
noncomputable def tFor : Mo FV := (mForS (mLoc 1) (setTup [.loc 2, .loc 3, .loc 4]) tBody)
theorem things_eq : d_law_are_things = mSeq tFor (mSeq (mRet (mV (.bool true))) (mNext)) := by
  unfold d_law_are_things tFor tBody tB1 tB2
  rfl
theorem t_turn {ks : List Int} {S : Option V} {p : T3} (hl : ks.length ≤ 5000) (h : tOK ks p) : tBody ⟨[some (.bytes ks), S, some (.int p.1), some (.int p.2.1), some (.int p.2.2)], []⟩ = .ok .next ⟨[some (.bytes ks), S, some (.int p.1), some (.int p.2.1), some (.int p.2.2)], []⟩ := by
  obtain ⟨i, m, o, rfl, h⟩ := h
  dsimp only
  have h1023 : ¬ (1023 : Int) < o := by rcases h with h | h <;> lia
  by_cases h0 : o = 0
  · subst h0
    have e : ¬ (0 : Int) < ((0 : Nat) : Int) := by lia
    have h1023 : ¬ (1023 : Int) < ((0 : Nat) : Int) := by lia
    unfold tBody
    rw [seq_next (st' := ⟨[some (.bytes ks), S, some (.int (i : Int)), some (.int (m : Int)), some (.int ((0 : Nat) : Int))], []⟩) (by simp (disch := omega) only [tB1, mIfS, mOr, mTruth, mCmp, mLoc, List.getElem?_cons_succ, List.getElem?_cons_zero, mInt, cmpV, eqV, neV, ordV, isV, isNotV, R_bind_ok, h1023, decide_false, truthV, mAnd, mBin, mCall, mCons, mNil, Bool.false_eq_true, e, bin_add, len_bytes, if_false, mSeq, mRet, mV, mNext])]
    rw [seq_next (st' := ⟨[some (.bytes ks), S, some (.int (i : Int)), some (.int (m : Int)), some (.int ((0 : Nat) : Int))], []⟩) (by simp (disch := omega) only [tB2, mIfS, mAnd, mTruth, mCmp, mLoc, List.getElem?_cons_succ, List.getElem?_cons_zero, mInt, cmpV, eqV, neV, ordV, isV, isNotV, R_bind_ok, e, decide_false, truthV, mBin, mCall, mCons, mNil, mSub, Bool.false_eq_true, bin_add, len_bytes, if_false, mSeq, mRet, mV, mNext])]
    rfl
  · obtain ⟨q1, q2, q3, q4, q5⟩ := h.resolve_left h0
    clear h
    have e : (0 : Int) < o := by lia
    have e1 : ¬ (ks.length : Int) < (i : Int) + m := by lia
    have hb : (m : Int) < 66 → (i : Int) + m < ks.length → (gI ks ((i : Int) + m) == gI ks ((i : Int) + m - o)) = false := by
      intro u1 u2
      rw [show (i : Int) + m - o = ((i + m - o : Nat) : Int) by lia]
      exact beq_false_of_ne (q5 (by lia) (by lia))
    have hpos : 0 ≤ (i : Int) + m - o := by lia
    clear q5
    have hm0 : (0 : Int) ≤ m := by lia
    have hi0 : (0 : Int) ≤ i := by lia
    generalize (i : Int) = I at *
    generalize (m : Int) = M at *
    generalize (o : Int) = O at *
    have c1 : ∀ st, st = (⟨[some (.bytes ks), S, some (.int I), some (.int M), some (.int O)], []⟩ : St) → mTruth (mCmp .Gt (mLoc 4) (mInt 1023)) st = .ok false st := by
      rintro _ rfl; simp (disch := omega) only [mTruth, mCmp, mLoc, List.getElem?_cons_succ, List.getElem?_cons_zero, mInt, cmpV, eqV, neV, ordV, isV, isNotV, R_bind_ok, h1023, decide_false, truthV]
    have c2 : ∀ st, st = (⟨[some (.bytes ks), S, some (.int I), some (.int M), some (.int O)], []⟩ : St) → mTruth (mCmp .Gt (mLoc 4) (mInt 0)) st = .ok true st := by
      rintro _ rfl; simp (disch := omega) only [mTruth, mCmp, mLoc, List.getElem?_cons_succ, List.getElem?_cons_zero, mInt, cmpV, eqV, neV, ordV, isV, isNotV, R_bind_ok, e, decide_true, truthV]
    have c3 : ∀ st, st = (⟨[some (.bytes ks), S, some (.int I), some (.int M), some (.int O)], []⟩ : St) → mTruth (mCmp .Gt (mBin .Add (mLoc 2) (mLoc 3)) (mCall fLen (mCons (mLoc 0) (mNil)))) st = .ok false st := by
      rintro _ rfl; simp (disch := omega) only [mTruth, mCmp, mBin, mLoc, List.getElem?_cons_succ, List.getElem?_cons_zero, R_bind_ok, bin_add, mCall, mCons, mNil, cmpV, eqV, neV, ordV, isV, isNotV, len_bytes, e1, decide_false, truthV]
    have hA : ∀ st, st = (⟨[some (.bytes ks), S, some (.int I), some (.int M), some (.int O)], []⟩ : St) → tB1 st = .ok .next st := by
      intro st h
      unfold tB1
      exact ifS_f ((or_f (c1 st h)).trans ((or_f ((and_t (c2 st h)).trans (and_f (c3 st h)))).trans rfl))
    have hB : ∀ st, st = (⟨[some (.bytes ks), S, some (.int I), some (.int M), some (.int O)], []⟩ : St) → tB2 st = .ok .next st := by
      intro st h
      unfold tB2
      refine ifS_f ((and_t (c2 st h)).trans ?_)
      subst h
      by_cases h66 : M < 66
      · refine (and_t (st' := ⟨[some (.bytes ks), S, some (.int I), some (.int M), some (.int O)], []⟩) (by simp (disch := omega) only [mTruth, mCmp, mLoc, List.getElem?_cons_succ, List.getElem?_cons_zero, mInt, cmpV, eqV, neV, ordV, isV, isNotV, R_bind_ok, h66, decide_true, truthV])).trans ?_
        by_cases hlt : I + M < ks.length
        · have hb := hb h66 hlt
          refine (and_t (st' := ⟨[some (.bytes ks), S, some (.int I), some (.int M), some (.int O)], []⟩) (by simp (disch := omega) only [mTruth, mCmp, mBin, mLoc, List.getElem?_cons_succ, List.getElem?_cons_zero, R_bind_ok, bin_add, mCall, mCons, mNil, cmpV, eqV, neV, ordV, isV, isNotV, len_bytes, hlt, decide_true, truthV])).trans (and_f ?_)
          simp (disch := omega) only [mTruth, mCmp, mSub, mLoc, List.getElem?_cons_zero, mBin, R_bind_ok, List.getElem?_cons_succ, bin_add, sub_bytes, cmpV, eqV, neV, ordV, isV, isNotV, bin_sub, hb, truthV]
        · exact and_f (by simp (disch := omega) only [mTruth, mCmp, mBin, mLoc, List.getElem?_cons_succ, List.getElem?_cons_zero, R_bind_ok, bin_add, mCall, mCons, mNil, cmpV, eqV, neV, ordV, isV, isNotV, len_bytes, hlt, decide_false, truthV])
      · exact and_f (by simp (disch := omega) only [mTruth, mCmp, mLoc, List.getElem?_cons_succ, List.getElem?_cons_zero, mInt, cmpV, eqV, neV, ordV, isV, isNotV, R_bind_ok, h66, decide_false, truthV])
    unfold tBody
    rw [seq_next (hA _ rfl), seq_next (hB _ rfl)]
    rfl
theorem getE_map {T : List T3} {i : Nat} {st : St} (h : i ≤ T.length) : srcAt (.list (.lst (T.map tv))) i st = some (if i < T.length then some (tv (T.getD i (0, 0, 0))) else none) := by
  simp only [srcAt, listOf, Option.map_some, List.getElem?_map]
  by_cases hi : i < T.length
  · rw [if_pos hi, List.getElem?_eq_getElem hi, List.getD_eq_getElem?_getD, List.getElem?_eq_getElem hi]; rfl
  · rw [if_neg hi, List.getElem?_eq_none (by lia)]; rfl
theorem a_things {ks : List Int} {T : List T3} {st : St} (hl : ks.length ≤ 5000) (hT : T.length ≤ 90000) (h : ∀ p ∈ T, tOK ks p) : f_law_are_things [.bytes ks, .lst (T.map tv)] st = .ok (.bool true) st := by
  let X := Option V × Option V × Option V
  let S : X → St := fun x => ⟨[some (.bytes ks), some (.lst (T.map tv)), x.1, x.2.1, x.2.2], []⟩
  have key := for_spec (X := X) (src := .list (.lst (T.map tv))) (asg := setTup [.loc 2, .loc 3, .loc 4]) (b := tBody) S T.length (fun i => tv (T.getD i (0, 0, 0))) (fun i x => True) (fun r => ∃ x, r = .ok .next (S x))
    (fun i x _ h => getE_map h) (by
      rintro i ⟨a, b, c⟩ hi _
      have hp : T.getD i (0, 0, 0) ∈ T := by
        rw [List.getD_eq_getElem?_getD, List.getElem?_eq_getElem hi]; exact List.getElem_mem hi
      have ht := t_turn (S := some (.lst (T.map tv))) hl (h _ hp)
      generalize T.getD i (0, 0, 0) = p at *
      exact ⟨S (some (.int p.1), some (.int p.2.1), some (.int p.2.2)), rfl, .inl ⟨(some (.int p.1), some (.int p.2.1), some (.int p.2.2)), ht, trivial⟩⟩) (fun x _ => ⟨x, rfl⟩) (T.length + 1) 0 (none, none, none) trivial (Nat.zero_le _) (by lia)
  obtain ⟨x, hx⟩ := key
  have hr : ∀ st, srcOf (.lst (T.map tv)) st = .ok (.list (.lst (T.map tv))) st := fun st => src_lst (by rw [List.length_map]; lia)
  have hf : ∀ st, srcFuel (.list (.lst (T.map tv))) st = T.length + 1 := by
    intro st
    show (T.map tv).length + 1 = _
    rw [List.length_map]
  have hF : tFor (S (none, none, none)) = .ok .next (S x) := by
    rw [← hx]
    simp (disch := omega) only [tFor, mForS, mLoc, List.getElem?_cons_succ, List.getElem?_cons_zero, R_bind_ok, hr, hf, S]
  have hd : d_law_are_things ⟨[some (.bytes ks), some (.lst (T.map tv)), none, none, none], []⟩ = .ok (.ret (.bool true)) (S x) := by
    rw [things_eq]
    exact (seq_next hF).trans rfl
  simp (disch := omega) only [f_law_are_things, fCall, fRet, fBeg, List.length_cons, List.length_nil, Nat.reduceAdd, Bool.false_eq_true, flats, V.flat, flats_tv, Bool.and_self, or_true, and_self, List.map_cons, List.map_nil, List.replicate, List.cons_append, List.nil_append, if_false, List.append_nil, hd, deref, retV, deref1, R_bind_ok, if_true]
end Mine
end
section
/-! text C10 -/
set_option Elab.async false
set_option autoImplicit false
set_option linter.unusedVariables false
set_option linter.unusedSimpArgs false
namespace Mine
/-! run -/
noncomputable def moreOf (left : Int) : Int := if 2 < left then (if 66 < left then 66 else left) else 0
noncomputable def runL (c : Int) : Nat → Int → Int → List (List Int)
  | 0, _, _ => []
  | k + 1, left, ago => if 0 < left then (if 0 < moreOf left then [(moreOf left - 3) * 4, ago] else [c]) :: runL c k (left - (if 1 > moreOf left then 1 else moreOf left)) 66 else []
noncomputable def run (c : Int) (n : Nat) : List (List Int) := (if 0 < n then [[c]] else []) ++ runL c n ((n : Int) - 1) 1
noncomputable def gT : Mo Bool := (mTruth (mCmp .Gt (mLoc 3) (mInt 0)))
noncomputable def g1 : Mo FV := (mAsg 5 (mIf (mTruth (mCmp .Gt (mLoc 3) (mInt 2))) (mCall fMin (mCons (mLoc 3) (mCons (mInt 66) (mNil)))) (mInt 0)))
noncomputable def g2 : Mo FV := (mDrop (mMeth fAppend isListC (mLoc 2) (mCons (mIf (mTruth (mCmp .Gt (mLoc 5) (mInt 0))) (mCall fBytes (mCons (mLst (mCons (mBin .Mult (mBin .Sub (mLoc 5) (mInt 3)) (mInt 4)) (mCons (mLoc 4) (mNil)))) (mNil))) (mCall fBytes (mCons (mLst (mCons (mLoc 0) (mNil))) (mNil)))) (mNil))))
noncomputable def g3 : Mo FV := (mAsgS [.loc 3, .loc 4] (mTup (mCons (mBin .Sub (mLoc 3) (mCall fMax (mCons (mLoc 5) (mCons (mInt 1) (mNil))))) (mCons (mInt 66) (mNil)))))
noncomputable def gBody : Mo FV := mSeq g1 (mSeq g2 (mSeq g3 mNext))
noncomputable def gI0 : Mo FV := (mAsgS [.loc 2, .loc 3, .loc 4] (mTup (mCons (mIf (mTruth (mCmp .Gt (mLoc 1) (mInt 0))) (mLstC (mCons (mCall fBytes (mCons (mLst (mCons (mLoc 0) (mNil))) (mNil))) (mNil))) (mLstC (mNil))) (mCons (mBin .Sub (mLoc 1) (mInt 1)) (mCons (mInt 1) (mNil))))))
noncomputable def gW (n : Nat) : Mo FV := fun st => mWhile gT gBody n st
theorem run_eq : d_law_run = mSeq gI0 (mSeq (gW 5000) (mSeq (mRet (mLoc 2)) mNext)) := by
  unfold d_law_run gI0 gW gT gBody g1 g2 g3
  rfl
noncomputable def gst (c n : Int) (cs : List (List Int)) (left ago : Int) (m : Option V) : St := ⟨[some (.int c), some (.int n), some (.ref 0), some (.int left), some (.int ago), m], [.list (cs.map .bytes)]⟩
theorem more_le {left : Int} : 0 ≤ moreOf left ∧ moreOf left ≤ 66 ∧ (0 < moreOf left → 3 ≤ moreOf left) ∧ (0 < left → moreOf left ≤ left) := by
  unfold moreOf
  split
  · split <;> lia
  · lia
theorem g_turn {c n left ago : Int} {cs : List (List Int)} {m : Option V} (hc : 0 ≤ c ∧ c < 256) (ha : 0 ≤ ago ∧ ago < 256) (hl : 0 < left) (hcs : cs.length ≤ 10000) :
    gBody (gst c n cs left ago m) = .ok .next (gst c n (cs ++ [if 0 < moreOf left then [(moreOf left - 3) * 4, ago] else [c]]) (left - (if 1 > moreOf left then 1 else moreOf left)) 66 (some (.int (moreOf left)))) := by
  have h1 : g1 (gst c n cs left ago m) = .ok .next (gst c n cs left ago (some (.int (moreOf left)))) := by
    unfold moreOf
    by_cases h2 : 2 < left
    · simp (disch := lia) only [g1, mAsg, mIf, mTruth, mCmp, mLoc, gst, List.getElem?_cons_succ, List.getElem?_cons_zero, mInt, cmpV, eqV, neV, ordV, isV, isNotV, R_bind_ok, h2, decide_true, truthV, mCall, mCons, mNil, fMin, if_true, List.set_cons_succ, List.set_cons_zero]
    · simp (disch := lia) only [g1, mAsg, mIf, mTruth, mCmp, mLoc, gst, List.getElem?_cons_succ, List.getElem?_cons_zero, mInt, cmpV, eqV, neV, ordV, isV, isNotV, R_bind_ok, h2, decide_false, truthV, mCall, mCons, mNil, fMin, Bool.false_eq_true, if_false, List.set_cons_succ, List.set_cons_zero]
  obtain ⟨q1, q2, q3, _⟩ := more_le (left := left)
  have hml : (cs.map V.bytes).length ≤ 10000 := by rw [List.length_map]; exact hcs
  have ha0 := fun l x => app0 (l := l) (cs := []) (vs := cs.map V.bytes) (x := x) (by lia)
  have h2 : g2 (gst c n cs left ago (some (.int (moreOf left)))) = .ok .next (gst c n (cs ++ [if 0 < moreOf left then [(moreOf left - 3) * 4, ago] else [c]]) left ago (some (.int (moreOf left)))) := by
    generalize moreOf left = M at *
    unfold gst
    rw [List.map_append]
    by_cases h0 : 0 < M
    · have q3 := q3 h0
      have hb : ∀ st, fBytes [.lst [.int ((M - 3) * 4), .int ago]] st = .ok (.bytes [(M - 3) * 4, ago]) st := fun st => bytes_two (by lia)
      simp (disch := lia) only [g2, mDrop, mMeth, mLoc, List.getElem?_cons_succ, List.getElem?_cons_zero, isListC, mCons, mIf, mTruth, mCmp, mInt, cmpV, eqV, neV, ordV, isV, isNotV, R_bind_ok, mCall, mLst, mBin, mNil, h0, decide_true, truthV, bin_sub, bin_mul, List.length_cons, List.length_nil, Nat.reduceAdd, Nat.reduceLeDiff, if_true, hb, ha0, List.map_cons, List.map_nil]
    · have hb : ∀ st, fBytes [.lst [.int c]] st = .ok (.bytes [c]) st := fun st => bytes_one hc
      simp (disch := lia) only [g2, mDrop, mMeth, mLoc, List.getElem?_cons_succ, List.getElem?_cons_zero, isListC, mCons, mIf, mTruth, mCmp, mInt, cmpV, eqV, neV, ordV, isV, isNotV, R_bind_ok, mCall, mLst, mBin, mNil, h0, decide_false, truthV, Bool.false_eq_true, bin_sub, bin_mul, List.length_cons, List.length_nil, Nat.reduceAdd, Nat.reduceLeDiff, if_true, hb, if_false, ha0, List.map_cons, List.map_nil]
  have h3 : ∀ cs, g3 (gst c n cs left ago (some (.int (moreOf left)))) = .ok .next (gst c n cs (left - (if 1 > moreOf left then 1 else moreOf left)) 66 (some (.int (moreOf left)))) := by
    intro cs
    simp (disch := lia) only [g3, mAsgS, mTup, mCons, mBin, mLoc, gst, List.getElem?_cons_succ, List.getElem?_cons_zero, mCall, mInt, mNil, R_bind_ok, fMax, bin_sub, List.length_cons, List.length_nil, Nat.reduceAdd, Nat.reduceLeDiff, if_true, List.reverse_cons, List.reverse_nil, List.nil_append, List.cons_append, setTGs, setTG, mSet, List.set_cons_succ, List.set_cons_zero]
  unfold gBody
  rw [seq_next h1, seq_next h2, seq_next (h3 _)]
  rfl
theorem runL_stop {c left ago : Int} (k : Nat) (h : ¬ 0 < left) : runL c k left ago = [] := by
  cases k with
  | zero => rfl
  | succ k => rw [runL, if_neg h]
theorem runL_fuel {c : Int} : ∀ (a b : Nat) (left ago : Int), left ≤ a → left ≤ b → runL c a left ago = runL c b left ago
  | 0, b, left, ago, h, _ => by rw [runL_stop b (by lia)]; rfl
  | a + 1, 0, left, ago, _, h => by rw [runL_stop (a + 1) (by lia)]; rfl
  | a + 1, b + 1, left, ago, h1, h2 => by
    simp only [runL]
    split
    · obtain ⟨q1, q2, q3, q4⟩ := more_le (left := left)
      rw [runL_fuel a b _ _ (by split <;> lia) (by split <;> lia)]
    · rfl
theorem g_loop {c n : Int} {cs : List (List Int)} {left ago : Int} {R : List (List Int)} (K : Nat) (hK : 4000 ≤ K) (hc : 0 ≤ c ∧ c < 256) (ha : 0 ≤ ago ∧ ago < 256) (hl : left ≤ 4000) (hcs : cs.length ≤ 10) (hR : cs ++ runL c (K + 1) left ago = R) :
    ∃ left' ago' m', gW 5000 (gst c n cs left ago none) = .ok .next (gst c n R left' ago' m') := by
  refine w_spec (X := List (List Int) × Int × Int × Option V) (fun x => gst c n x.1 x.2.1 x.2.2.1 x.2.2.2) (fun x => 0 ≤ x.2.2.1 ∧ x.2.2.1 < 256 ∧ x.2.1 ≤ 4000 ∧ (x.1.length : Int) + x.2.1 ≤ 4010 ∧ (x.1.length : Int) ≤ 4010 ∧ x.1 ++ runL c (K + 1) x.2.1 x.2.2.1 = R) (fun x => x.2.1.toNat) (fun r => ∃ left' ago' m', r = .ok .next (gst c n R left' ago' m')) ?_ 5000 (cs, left, ago, none) ⟨ha.1, ha.2, hl, by dsimp only; lia, by dsimp only; lia, hR⟩ (by dsimp only; lia)
  rintro ⟨cs, left, ago, m⟩ ⟨h1, h2, h3, h4, h5, h6⟩
  dsimp only at *
  by_cases h0 : 0 < left
  · right
    obtain ⟨q1, q2, q3, q4⟩ := more_le (left := left)
    have q4 := q4 h0
    refine ⟨by simp (disch := lia) only [gT, mTruth, mCmp, mLoc, gst, List.getElem?_cons_succ, List.getElem?_cons_zero, mInt, cmpV, eqV, neV, ordV, isV, isNotV, R_bind_ok, h0, decide_true, truthV], .inl ⟨(cs ++ [if 0 < moreOf left then [(moreOf left - 3) * 4, ago] else [c]], left - (if 1 > moreOf left then 1 else moreOf left), 66, some (.int (moreOf left))), g_turn hc ⟨h1, h2⟩ h0 (by lia), ?_⟩⟩
    dsimp only
    rw [List.length_append, List.length_singleton]
    refine ⟨⟨by lia, by lia, by split <;> lia, by split <;> lia, by lia, ?_⟩, by split <;> lia⟩
    rw [runL, if_pos h0, runL_fuel K (K + 1) _ _ (by split <;> lia) (by split <;> lia)] at h6
    rw [← h6, List.append_assoc]
    rfl
  · left
    refine ⟨by simp (disch := lia) only [gT, mTruth, mCmp, mLoc, gst, List.getElem?_cons_succ, List.getElem?_cons_zero, mInt, cmpV, eqV, neV, ordV, isV, isNotV, R_bind_ok, h0, decide_false, truthV], left, ago, m, ?_⟩
    rw [runL_stop _ h0, List.append_nil] at h6
    rw [h6]
theorem flats_bytes : ∀ cs : List (List Int), flats (cs.map .bytes) = true
  | [] => rfl
  | c :: cs => by simp only [List.map_cons, flats, flats_bytes cs, V.flat, Bool.and_true]
theorem a_run {c : Int} {n : Nat} {st : St} (hc : 0 ≤ c ∧ c < 256) (hn : n ≤ 2000) : f_law_run [.int c, .int (n : Int)] st = .ok (.lst ((run c n).map .bytes)) st := by
  have hI : gI0 ⟨[some (.int c), some (.int (n : Int)), none, none, none, none], []⟩ = .ok .next (gst c n (if 0 < n then [[c]] else []) ((n : Int) - 1) 1 none) := by
    have hb : ∀ st, fBytes [.lst [.int c]] st = .ok (.bytes [c]) st := fun st => bytes_one hc
    by_cases h0 : 0 < n
    · have h0' : (0 : Int) < (n : Int) := by lia
      rw [if_pos h0]
      simp (disch := lia) only [gI0, mAsgS, mTup, mCons, mIf, mTruth, mCmp, mLoc, List.getElem?_cons_succ, List.getElem?_cons_zero, mInt, cmpV, eqV, neV, ordV, isV, isNotV, R_bind_ok, h0', decide_true, truthV, mLstC, mCall, mLst, mNil, List.length_nil, Nat.reduceLeDiff, if_true, List.length_cons, Nat.reduceAdd, hb, List.nil_append, mBin, bin_sub, List.reverse_cons, List.reverse_nil, List.cons_append, setTGs, setTG, mSet, List.set_cons_succ, List.set_cons_zero, gst, List.map_cons, List.map_nil]
    · have h0' : ¬ (0 : Int) < (n : Int) := by lia
      rw [if_neg h0]
      simp (disch := lia) only [gI0, mAsgS, mTup, mCons, mIf, mTruth, mCmp, mLoc, List.getElem?_cons_succ, List.getElem?_cons_zero, mInt, cmpV, eqV, neV, ordV, isV, isNotV, R_bind_ok, h0', decide_false, truthV, mLstC, mCall, mLst, mNil, List.length_nil, Nat.reduceLeDiff, if_true, Bool.false_eq_true, List.length_cons, Nat.reduceAdd, hb, List.nil_append, if_false, mBin, bin_sub, List.reverse_cons, List.reverse_nil, List.cons_append, setTGs, setTG, mSet, List.set_cons_succ, List.set_cons_zero, gst, List.map_nil]
  obtain ⟨l', a', m', hW⟩ := g_loop (c := c) (n := n) (cs := if 0 < n then [[c]] else []) (left := (n : Int) - 1) (ago := 1) (R := run c n) 4000 (Nat.le_refl _) hc (by lia) (by lia) (by split <;> simp) (by
    unfold run
    rw [runL_fuel (4000 + 1) n _ _ (by lia) (by lia)])
  have hd : d_law_run ⟨[some (.int c), some (.int (n : Int)), none, none, none, none], []⟩ = .ok (.ret (.ref 0)) (gst c n (run c n) l' a' m') := by
    rw [run_eq, seq_next hI, seq_next hW]
    rfl
  simp (disch := lia) only [f_law_run, fCall, fRet, fBeg, List.length_cons, List.length_nil, Nat.reduceAdd, Bool.false_eq_true, flats, V.flat, Bool.and_self, or_true, and_self, List.map_cons, List.map_nil, List.replicate, List.cons_append, List.nil_append, if_false, List.append_nil, hd, gst, deref, retV, deref1, R_bind_ok, Nat.reduceLT, List.getElem?_cons_zero, flats_bytes, if_true]
end Mine
end
section
/-! text C11 -/
set_option Elab.async false
set_option autoImplicit false
set_option linter.unusedVariables false
set_option linter.unusedSimpArgs false
namespace Mine
open PySem (clipAt clipAt_nat)
/-! mapped -/
theorem cut_gen {α : Type} (ks : List α) (i j : Nat) : cutV ks (some (i : Int)) (some (j : Int)) = (ks.drop i).take (j - i) := by
  unfold cutV
  show (ks.drop (clipAt ks.length (i : Int))).take (clipAt ks.length (j : Int) - clipAt ks.length (i : Int)) = _
  rw [clipAt_nat, clipAt_nat]
  by_cases h : i ≤ ks.length
  · rw [Nat.min_eq_left h]
    by_cases h2 : j ≤ ks.length
    · rw [Nat.min_eq_left h2]
    · rw [Nat.min_eq_right (by lia), List.take_of_length_le (by rw [List.length_drop]; exact Nat.le_refl _), List.take_of_length_le (by rw [List.length_drop]; lia)]
  · rw [Nat.min_eq_right (show ks.length ≤ i by lia), List.drop_eq_nil_of_le (Nat.le_refl _), List.drop_eq_nil_of_le (show ks.length ≤ i by lia), List.take_nil, List.take_nil]
noncomputable def mpT : Mo Bool := (mTruth (mCmp .Eq (mCall fLen (mCons (mSub (mBox 0) (mLoc 0)) (mNil))) (mInt 2)))
noncomputable def mpC : Mo V := (mComp (mCall fRange (mCons (mCall fLen (mCons (mBox 0) (mNil))) (mNil))) 1 (setTG (.loc 0)) mpT (mBin .Pow (mInt 2) (mLoc 0)))
noncomputable def keepR (R : List (List Int)) (k : Nat) : Bool := ((R.getD k []).length : Int) == 2
noncomputable def pows (R : List (List Int)) : List Int := ((List.range R.length).filter (keepR R)).map fun k : Nat => (2 : Int) ^ k
theorem mp_t {R : List (List Int)} {k : Nat} {l : List (Option V)} {ws : List V} (h : k < R.length) (hR : R.length ≤ 8) (h2 : ∀ c ∈ R, c.length ≤ 2) : mpT ⟨[some (.int (k : Int))], [.box (some (.lst (R.map .bytes))), .list ws]⟩ = .ok (keepR R k) ⟨[some (.int (k : Int))], [.box (some (.lst (R.map .bytes))), .list ws]⟩ := by
  have e : ∀ st, subV (.lst (R.map .bytes)) (.int (k : Int)) st = .ok (.bytes (R.getD k [])) st := by
    intro st
    have e1 : subV (.lst (R.map .bytes)) (.int (k : Int)) st = (if 0 ≤ (k : Int) ∧ (k : Int) < (R.map V.bytes).length ∧ (R.map V.bytes).length ≤ 1048576 then .ok ((R.map V.bytes).getD (k : Int).toNat .none) st
      else if (k : Int) < 0 ∧ -((R.map V.bytes).length : Int) ≤ (k : Int) ∧ (R.map V.bytes).length ≤ 1048576 then .ok ((R.map V.bytes).getD ((k : Int) + (R.map V.bytes).length).toNat .none) st else .fail) := rfl
    rw [e1, List.length_map, if_pos (by lia), Int.toNat_natCast, List.getD_eq_getElem?_getD, List.getD_eq_getElem?_getD, List.getElem?_map, List.getElem?_eq_getElem h]
    rfl
  have hl : (R.getD k []).length ≤ 2 := by
    rw [List.getD_eq_getElem?_getD, List.getElem?_eq_getElem h]
    exact h2 _ (List.getElem_mem h)
  unfold keepR
  generalize R.getD k [] = c at *
  simp (disch := lia) only [mpT, mTruth, mCmp, mCall, mCons, mSub, mBox, List.getElem?_cons_zero, mLoc, R_bind_ok, e, mNil, len_bytes, mInt, cmpV, eqV, neV, ordV, isV, isNotV, truthV]
theorem mp_e {k : Nat} {c : Cell} {ws : List V} (h : k < 8) : (mBin .Pow (mInt 2) (mLoc 0)) ⟨[some (.int (k : Int))], [c, .list ws]⟩ = .ok (.int (2 ^ k)) ⟨[some (.int (k : Int))], [c, .list ws]⟩ := by
  simp (disch := lia) only [mBin, mInt, mLoc, R_bind_ok, List.getElem?_cons_zero, bin_pow, Int.toNat_natCast]
theorem mp_comp {R : List (List Int)} {l : List (Option V)} (hR : R.length ≤ 8) (h2 : ∀ c ∈ R, c.length ≤ 2) : mpC ⟨l, [.box (some (.lst (R.map .bytes)))]⟩ = .ok (.lst ((pows R).map .int)) ⟨l, [.box (some (.lst (R.map .bytes)))]⟩ := by
  have hl : ∀ st, fLen [.lst (R.map .bytes)] st = .ok (.int (R.length : Int)) st := by
    intro st
    have : fLen [.lst (R.map .bytes)] st = if (R.map V.bytes).length ≤ 1048576 then .ok (.int (R.map V.bytes).length) st else .fail := rfl
    rw [this, List.length_map, if_pos (by lia)]
  have hfl : flats (((List.range R.length).filter (keepR R)).map fun k : Nat => V.int (2 ^ k)) = true := by
    have := flats_ints (((List.range R.length).filter (keepR R)).map fun k : Nat => (2 : Int) ^ k)
    rw [List.map_map] at this
    exact this
  unfold pows
  rw [List.map_map]
  exact comp_spec (d := (mCall fRange (mCons (mCall fLen (mCons (mBox 0) (mNil))) (mNil)))) (src := .rgn 0 1 R.length) (asg := setTG (.loc 0)) (t := mpT)
    (e := (mBin .Pow (mInt 2) (mLoc 0))) (nl := 1) (N := R.length) (st := ⟨l, [.box (some (.lst (R.map .bytes)))]⟩) (v := .rng 0 (R.length : Int) 1)
    (fun i => .int (i : Int)) (keepR R) (fun k => .int (2 ^ k)) (by lia) (by simp (disch := lia) only [mCall, mCons, mBox, List.getElem?_cons_zero, mNil, R_bind_ok, hl, fRange]) (src_rng (by lia)) rfl (by simp only [List.all_cons, List.all_nil, Cell.flat, V.flat, flats_bytes, Bool.and_self]) hfl (fun i l ws _ => src_rgn) (by
      intro i l ws hi hl
      obtain ⟨a, rfl⟩ : ∃ a, l = [a] := by
        cases l with
        | nil => simp at hl
        | cons a l => cases l with
          | nil => exact ⟨a, rfl⟩
          | cons b l => simp at hl
      exact ⟨[some (.int (i : Int))], rfl, rfl, mp_t (l := []) hi hR h2, fun _ => mp_e (by lia)⟩)
theorem pows_sum (R : List (List Int)) : (pows R).sum = mapOf 0 R := by
  have key : ∀ n, n ≤ R.length → (((List.range n).filter (keepR R)).map fun k : Nat => (2 : Int) ^ k).sum = mapOf 0 (R.take n) := by
    intro n
    induction n with
    | zero => intro _; rfl
    | succ n ih =>
      intro h
      have hlt : n < R.length := by lia
      rw [List.range_succ, List.filter_append, List.map_append, List.sum_append, ih (by lia), List.take_succ_eq_append_getElem hlt, mapOf_app, List.length_take, Nat.min_eq_left (by lia), Nat.zero_add]
      have hk : keepR R n = decide (R[n].length = 2) := by
        unfold keepR
        rw [List.getD_eq_getElem?_getD, List.getElem?_eq_getElem hlt]
        show ((R[n].length : Int) == 2) = _
        by_cases h2 : R[n].length = 2
        · rw [h2]; rfl
        · rw [decide_eq_false h2]; exact beq_false_of_ne (by lia)
      by_cases h2 : R[n].length = 2
      · rw [if_pos h2]
        simp [List.filter_cons, hk, h2]
      · rw [if_neg h2]
        simp [List.filter_cons, hk, h2]
  have := key R.length (Nat.le_refl _)
  rw [List.take_length] at this
  exact this
theorem bytesOf_map : ∀ R : List (List Int), bytesOf (R.map .bytes) = some R
  | [] => rfl
  | c :: R => by simp only [List.map_cons, bytesOf, bytesOf_map R, Option.map_some]
theorem flat2 : ∀ R : List (List Int), (∀ c ∈ R, c.length ≤ 2) → R.flatten.length ≤ 2 * R.length
  | [], _ => Nat.le_refl _
  | c :: R, h => by
    have h1 := h c List.mem_cons_self
    have h2 := flat2 R fun d hd => h d (List.mem_cons_of_mem _ hd)
    rw [List.flatten_cons, List.length_append, List.length_cons]; lia
noncomputable def mp1 : Mo FV := (mAsgB 0 (mSlice (mLoc 0) (mPair (mSome (mLoc 2)) (mSome (mBin .Add (mLoc 2) (mInt 8))))))
noncomputable def mp2 : Mo FV := (mAsg 1 (mBin .Add (mBin .Add (mLoc 1) (mCall fBytes (mCons (mLst (mCons (mCall fSum (mCons mpC (mNil))) (mNil))) (mNil)))) (mMeth fJoin isBytes (mV (.bytes [])) (mCons (mBox 0) (mNil)))))
noncomputable def mpBody : Mo FV := mSeq mp1 (mSeq mp2 mNext)
noncomputable def mpst (cs : List (List Int)) (F : List Int) (a u : Option V) : St := ⟨[some (.lst (cs.map .bytes)), some (.bytes F), a], [.box u]⟩
theorem mp_turn {cs : List (List Int)} {F : List Int} {at_ : Nat} {u : Option V} (hcs : cs.length ≤ 5000) (h2 : ∀ c ∈ cs, c.length ≤ 2) (hF : F.length ≤ 100000) :
    mpBody (mpst cs F (some (.int (at_ : Int))) u) = .ok .next (mpst cs (F ++ grp ((cs.drop at_).take 8)) (some (.int (at_ : Int))) (some (.lst (((cs.drop at_).take 8).map .bytes)))) := by
  have hs : ∀ st, sliceV (.lst (cs.map .bytes)) (some (at_ : Int), some ((at_ : Int) + 8)) st = .ok (.lst (((cs.drop at_).take 8).map .bytes)) st := by
    intro st
    rw [slice_lst (by rw [List.length_map]; lia)]
    have := cut_gen (cs.map V.bytes) at_ (at_ + 8)
    rw [show at_ + 8 - at_ = 8 by lia, ← List.map_drop, ← List.map_take] at this
    rw [← this]
    rfl
  have hR : ((cs.drop at_).take 8).length ≤ 8 := by rw [List.length_take]; lia
  have hR2 : ∀ c ∈ (cs.drop at_).take 8, c.length ≤ 2 := fun c hc => h2 c (List.mem_of_mem_drop (List.mem_of_mem_take hc))
  have e1 : mp1 (mpst cs F (some (.int (at_ : Int))) u) = .ok .next (mpst cs F (some (.int (at_ : Int))) (some (.lst (((cs.drop at_).take 8).map .bytes)))) := by
    simp (disch := lia) only [mp1, mAsgB, mSlice, mLoc, mpst, List.getElem?_cons_zero, mPair, mSome, mBin, mInt, R_bind_ok, List.getElem?_cons_succ, bin_add, hs, mSetBox, isBox, List.set_cons_zero, if_true]
  generalize (cs.drop at_).take 8 = R at *
  have hc := fun l => mp_comp (R := R) (l := l) hR hR2
  have hsum : ∀ st, fSum [.lst ((pows R).map .int)] st = .ok (.int (mapOf 0 R)) st := by
    intro st
    simp only [fSum, listOf, intsOf_map, pows_sum]
  have hM : 0 ≤ mapOf 0 R ∧ mapOf 0 R < 256 := by
    have h1 := mapOf_le 0 R
    have h3 : (2 : Int) ^ (0 + R.length) ≤ 256 := by
      have key : ∀ l : Nat, l ≤ 8 → (2 : Int) ^ (0 + l) ≤ 256 := by decide
      exact key _ hR
    have h0 : (2 : Int) ^ 0 = 1 := rfl
    lia
  have hb : ∀ st, fBytes [.lst [.int (mapOf 0 R)]] st = .ok (.bytes [mapOf 0 R]) st := fun st => bytes_one hM
  have hfl := flat2 R hR2
  have hj : ∀ st, fJoin (.bytes []) [.lst (R.map .bytes)] st = .ok (.bytes R.flatten) st := by
    intro st
    simp only [fJoin, listOf, bytesOf_map]
    exact if_pos (by lia)
  have e2 : mp2 (mpst cs F (some (.int (at_ : Int))) (some (.lst (R.map .bytes)))) = .ok .next (mpst cs (F ++ grp R) (some (.int (at_ : Int))) (some (.lst (R.map .bytes)))) := by
    unfold grp mpst
    rw [List.append_cons]
    have hc1 : ∀ st, binV .Add (.bytes F) (.bytes [mapOf 0 R]) st = .ok (.bytes (F ++ [mapOf 0 R])) st := fun st => bin_cat (by rw [List.length_singleton]; lia)
    have hc2 : ∀ st, binV .Add (.bytes (F ++ [mapOf 0 R])) (.bytes R.flatten) st = .ok (.bytes (F ++ [mapOf 0 R] ++ R.flatten)) st := fun st => bin_cat (by rw [List.length_append, List.length_singleton]; lia)
    simp (disch := lia) only [mp2, mAsg, mBin, mLoc, List.getElem?_cons_succ, List.getElem?_cons_zero, mCall, mCons, mLst, mNil, R_bind_ok, hc, hsum, List.length_cons, List.length_nil, Nat.reduceAdd, Nat.reduceLeDiff, if_true, hb, hc1, mMeth, mV, isBytes, mBox, hj, hc2, List.set_cons_succ, List.set_cons_zero]
  unfold mpBody
  rw [seq_next e1, seq_next e2]
  rfl
end Mine
end
section
/-! text C12 -/
set_option Elab.async false
set_option autoImplicit false
set_option linter.unusedVariables false
set_option linter.unusedSimpArgs false
namespace Mine
noncomputable def mpFor : Mo FV := (mForS (mCall fRange (mCons (mInt 0) (mCons (mCall fLen (mCons (mLoc 0) (mNil))) (mCons (mInt 8) (mNil))))) (setTG (.loc 2)) mpBody)
theorem mapped_eq : d_law_mapped = mSeq (mAsg 1 (mV (.bytes []))) (mSeq mpFor (mSeq (mRet (mLoc 1)) (mNext))) := by
  unfold d_law_mapped mpFor mpBody mp1 mp2 mpC mpT
  rfl
theorem grp_len2 {R : List (List Int)} (h8 : R.length ≤ 8) (h : ∀ c ∈ R, c.length ≤ 2) : (grp R).length ≤ 17 := by
  have := flat2 R h
  unfold grp
  rw [List.length_cons]; lia
theorem mapd_row {F : Nat} {cs : List (List Int)} (h : cs ≠ []) (hl : cs.length ≤ F) : mapd F cs = grp (cs.take 8) ++ mapd F (cs.drop 8) := by
  cases cs with
  | nil => exact absurd rfl h
  | cons c cs =>
    cases F with
    | zero => simp at hl
    | succ F =>
      rw [mapd, mapd_fuel F (F + 1)] <;> (rw [List.length_drop]; rw [List.length_cons] at *; lia)
theorem mp_for {cs : List (List Int)} {a u : Option V} {K : Nat} (hcs : cs.length ≤ 5000) (h2 : ∀ c ∈ cs, c.length ≤ 2) (hK : cs.length ≤ K) :
    ∃ a' u', mpFor (mpst cs [] a u) = .ok .next (mpst cs (mapd K cs) a' u') := by
  have hN : rngN 0 (cs.length : Int) 8 = (cs.length + 7) / 8 := by
    unfold rngN
    split <;> lia
  let X := List Int × Option V × Option V
  have key := for_spec (X := X) (src := .rgn 0 8 ((cs.length + 7) / 8)) (asg := setTG (.loc 2)) (b := mpBody) (fun x => mpst cs x.1 x.2.1 x.2.2) ((cs.length + 7) / 8) (fun i => .int (0 + (i : Int) * 8)) (fun i x => x.1.length ≤ 17 * i ∧ x.1 ++ mapd K (cs.drop (8 * i)) = mapd K cs) (fun r => ∃ a' u', r = .ok .next (mpst cs (mapd K cs) a' u'))
    (fun i x _ h => by
      simp only [srcAt]
      split <;> rfl) (by
      rintro i ⟨F, a, u⟩ hi ⟨q1, q2⟩
      dsimp only at *
      have e : (0 : Int) + (i : Int) * 8 = ((8 * i : Nat) : Int) := by lia
      rw [e]
      have hR8 : ((cs.drop (8 * i)).take 8).length ≤ 8 := by rw [List.length_take]; lia
      have hg := grp_len2 hR8 fun c hc => h2 c (List.mem_of_mem_drop (List.mem_of_mem_take hc))
      refine ⟨mpst cs F (some (.int ((8 * i : Nat) : Int))) u, rfl, .inl ⟨(F ++ grp ((cs.drop (8 * i)).take 8), some (.int ((8 * i : Nat) : Int)), some (.lst (((cs.drop (8 * i)).take 8).map .bytes))), mp_turn hcs h2 (by lia), ?_, ?_⟩⟩
      · dsimp only; rw [List.length_append]; lia
      · dsimp only
        rw [List.append_assoc, ← q2, mapd_row (cs := cs.drop (8 * i)) (by
          intro h
          have := congrArg List.length h
          rw [List.length_drop, List.length_nil] at this
          lia) (by rw [List.length_drop]; lia), List.drop_drop]
        rw [show 8 * i + 8 = 8 * (i + 1) by lia]) (by
      rintro ⟨F, a, u⟩ ⟨q1, q2⟩
      dsimp only at *
      rw [List.drop_eq_nil_of_le (by lia)] at q2
      have : mapd K [] = [] := by cases K <;> rfl
      rw [this, List.append_nil] at q2
      exact ⟨a, u, by rw [q2]⟩) ((cs.length + 7) / 8 + 1) 0 ([], a, u) ⟨Nat.zero_le _, rfl⟩ (Nat.zero_le _) (by lia)
  obtain ⟨a', u', h⟩ := key
  refine ⟨a', u', ?_⟩
  rw [← h]
  have hr : ∀ st, srcOf (.rng 0 (cs.length : Int) 8) st = .ok (.rgn 0 8 ((cs.length + 7) / 8)) st := by
    intro st
    rw [← hN]
    exact if_pos (by lia)
  have hlen : ∀ st, fLen [.lst (cs.map .bytes)] st = .ok (.int (cs.length : Int)) st := by
    intro st
    have : fLen [.lst (cs.map .bytes)] st = if (cs.map V.bytes).length ≤ 1048576 then .ok (.int (cs.map V.bytes).length) st else .fail := rfl
    rw [this, List.length_map, if_pos (by lia)]
  have hrange : ∀ st, fRange [.int 0, .int (cs.length : Int), .int 8] st = .ok (.rng 0 (cs.length : Int) 8) st := fun st => by
    simp only [fRange]
    exact if_pos (by lia)
  simp (disch := lia) only [mpFor, mForS, mCall, mCons, mInt, mpst, mLoc, mNil, R_bind_ok, List.getElem?_cons_zero, hlen, hrange, srcFuel, listOf, hr]
theorem a_mapped {cs : List (List Int)} {K : Nat} {st : St} (hcs : cs.length ≤ 5000) (h2 : ∀ c ∈ cs, c.length ≤ 2) (hK : cs.length ≤ K) : f_law_mapped [.lst (cs.map .bytes)] st = .ok (.bytes (mapd K cs)) st := by
  obtain ⟨a', u', h⟩ := mp_for (a := none) (u := none) hcs h2 hK
  have hd : d_law_mapped ⟨[some (.lst (cs.map .bytes)), none, none], [.box none]⟩ = .ok (.ret (.bytes (mapd K cs))) (mpst cs (mapd K cs) a' u') := by
    rw [mapped_eq, seq_next (a := mAsg 1 (mV (.bytes []))) (st' := mpst cs [] none none) rfl, seq_next h]
    rfl
  simp (disch := lia) only [f_law_mapped, fCall, fRet, fBeg, List.length_cons, List.length_nil, Nat.reduceAdd, Bool.false_eq_true, flats, V.flat, flats_bytes, Bool.and_self, or_true, and_self, List.map_cons, List.map_nil, List.replicate, List.cons_append, List.nil_append, if_false, hd, deref, retV, deref1, R_bind_ok, if_true]
/-! a run of one octet -/
theorem lcp_rep : ∀ (K a b : Nat) (c : Int), lcp K (List.replicate a c) (List.replicate b c) = min K (min a b)
  | 0, a, b, c => by simp [lcp]
  | K + 1, 0, b, c => by simp [lcp]
  | K + 1, a + 1, 0, c => by simp [lcp, List.replicate]
  | K + 1, a + 1, b + 1, c => by
    simp only [List.replicate_succ, lcp, if_true, lcp_rep K a b c]
    lia
theorem gI_rep {n i : Nat} {c : Int} (h : i < n) : gI (List.replicate n c) i = c := by
  rw [gI_get (by rw [List.length_replicate]; exact h), List.getElem_replicate]
noncomputable def hC (c : Int) : Int := hashI [c, c, c] 0
theorem hash_rep {n i : Nat} {c : Int} (h : i + 2 < n) : hashI (List.replicate n c) i = hC c := by
  unfold hashI
  have e1 : (i : Int) + 1 = ((i + 1 : Nat) : Int) := rfl
  have e2 : (i : Int) + 2 = ((i + 2 : Nat) : Int) := rfl
  rw [e1, e2, gI_rep (by lia), gI_rep (by lia), gI_rep (by lia)]
  rfl
theorem rep_chunks {n : Nat} {c : Int} : ∀ (k i : Nat) (f : Int → Option Int) (ago : Nat), i ≤ n → n ≤ i + k → 0 < ago → ago < 256 → (n - i > 2 → ago ≤ i ∧ f (hC c) = some ((i - ago : Nat) : Int)) →
    chunks (List.replicate n c) k i f = runL c k ((n : Int) - i) ago := by
  intro k
  induction k with
  | zero => intro i f ago _ _ _ _ _; rfl
  | succ k ih =>
    intro i f ago hi hk h1 h3 hf
    rw [chunks, runL, List.length_replicate]
    by_cases hlt : i < n
    · rw [if_pos hlt, if_pos (by lia)]
      by_cases hl : n - i > 2
      · obtain ⟨h2, hf⟩ := hf hl
        have hlcp : lcp 66 ((List.replicate n c).drop i) ((List.replicate n c).drop (i - ago)) = min 66 (n - i) := by
          rw [List.drop_replicate, List.drop_replicate, lcp_rep]
          lia
        have hfm : fm (List.replicate n c) i f = ((min 66 (n - i), ago), upd f (hC c) i) := by
          unfold fm
          rw [List.length_replicate, if_neg (by lia), hash_rep (by lia), hf]
          dsimp only
          rw [Int.toNat_natCast, if_neg (by lia), hlcp, if_pos (by lia), show i - (i - ago) = ago by lia]
        rw [hfm]
        have hm : moreOf ((n : Int) - i) = ((min 66 (n - i) : Nat) : Int) := by
          unfold moreOf
          rw [if_pos (by lia)]
          split <;> lia
        rw [hm, if_pos (show (0 : Int) < ((min 66 (n - i) : Nat) : Int) by lia), if_neg (show ¬ (1 : Int) > ((min 66 (n - i) : Nat) : Int) by lia)]
        have hadv : adv (min 66 (n - i), ago) = min 66 (n - i) := if_pos (by dsimp only; lia)
        have hch : chunk (List.replicate n c) i (min 66 (n - i), ago) = [(((min 66 (n - i) : Nat) : Int) - 3) * 4 + (ago : Int) / 256, (ago : Int) % 256] := if_pos (by dsimp only; lia)
        rw [hch]
        dsimp only
        rw [hadv, show (ago : Int) / 256 = 0 by lia, show (ago : Int) % 256 = ago by lia, Int.add_zero]
        congr 1
        by_cases h66 : 66 ≤ n - i
        · rw [Nat.min_eq_left h66]
          rw [ih (i + 66) (upd f (hC c) i) 66 (by lia) (by lia) (by lia) (by lia) (fun _ => ⟨by lia, by
            unfold upd
            rw [if_pos rfl, show i + 66 - 66 = i by lia]⟩)]
          rw [show (n : Int) - ((i + 66 : Nat) : Int) = (n : Int) - i - ((66 : Nat) : Int) by lia]
          rfl
        · rw [Nat.min_eq_right (by lia), chunks_end (by rw [List.length_replicate]; lia), runL_stop _ (by lia)]
      · have hfm : fm (List.replicate n c) i f = ((0, 0), f) := by
          unfold fm
          rw [List.length_replicate, if_pos (by lia)]
        rw [hfm]
        have hm : moreOf ((n : Int) - i) = 0 := by
          unfold moreOf
          rw [if_neg (by lia)]
        rw [hm, if_neg (by decide), if_pos (by decide)]
        have hadv : adv (0, 0) = 1 := rfl
        have hch : chunk (List.replicate n c) i (0, 0) = [gI (List.replicate n c) i] := rfl
        dsimp only
        rw [hadv, hch, gI_rep hlt, ih (i + 1) f 66 (by lia) (by lia) (by lia) (by lia) (fun h => absurd h (by lia))]
        congr 2
        lia
    · rw [if_neg hlt, if_neg (by lia)]
end Mine
end
section
/-! text C13 -/
set_option Elab.async false
set_option autoImplicit false
set_option linter.unusedVariables false
set_option linter.unusedSimpArgs false
namespace Mine
theorem runL_len (c : Int) : ∀ (k : Nat) (left ago : Int), (runL c k left ago).length ≤ k ∧ ∀ x ∈ runL c k left ago, x.length ≤ 2
  | 0, _, _ => ⟨Nat.le_refl _, fun x hx => by cases hx⟩
  | k + 1, left, ago => by
    rw [runL]
    split
    · obtain ⟨h1, h2⟩ := runL_len c k (left - (if 1 > moreOf left then 1 else moreOf left)) 66
      refine ⟨by rw [List.length_cons]; lia, fun x hx => ?_⟩
      rcases List.mem_cons.mp hx with rfl | hx
      · split <;> simp
      · exact h2 x hx
    · exact ⟨Nat.zero_le _, fun x hx => by cases hx⟩
theorem run_len (c : Int) (n : Nat) : (run c n).length ≤ n + 1 ∧ ∀ x ∈ run c n, x.length ≤ 2 := by
  obtain ⟨h1, h2⟩ := runL_len c n ((n : Int) - 1) 1
  unfold run
  refine ⟨?_, fun x hx => ?_⟩
  · rw [List.length_append]; split <;> (simp only [List.length_cons, List.length_nil]; lia)
  · rcases List.mem_append.mp hx with hx | hx
    · split at hx
      · rw [List.mem_singleton.mp hx]; simp
      · cases hx
    · exact h2 x hx
theorem chunks_rep (n : Nat) (c : Int) : chunks (List.replicate n c) n 0 (fun _ => none) = run c n := by
  cases n with
  | zero => rfl
  | succ m =>
    have hfm : (fm (List.replicate (m + 1) c) 0 fun _ => none).1 = (0, 0) ∧ (m > 2 → (fm (List.replicate (m + 1) c) 0 fun _ => none).2 (hC c) = some 0) := by
      unfold fm
      rw [List.length_replicate]
      by_cases h : m + 1 < 0 + 3
      · rw [if_pos h]
        exact ⟨rfl, fun h' => by lia⟩
      · rw [if_neg h]
        refine ⟨rfl, fun _ => ?_⟩
        have := hash_rep (n := m + 1) (i := 0) (c := c) (by lia)
        dsimp only
        rw [this]
        unfold upd
        rw [if_pos rfl]
        rfl
    rw [chunks, List.length_replicate, if_pos (Nat.succ_pos m), hfm.1]
    have hch : chunk (List.replicate (m + 1) c) 0 (0, 0) = [gI (List.replicate (m + 1) c) ((0 : Nat) : Int)] := rfl
    have hadv : (0 + adv (0, 0)) = 1 := rfl
    rw [hch, hadv, gI_rep (Nat.succ_pos m)]
    rw [rep_chunks m 1 _ 1 (by lia) (by lia) (by lia) (by lia) (fun h => ⟨Nat.le_refl _, hfm.2 (by lia)⟩)]
    unfold run
    rw [if_pos (Nat.succ_pos m), List.singleton_append, runL_fuel (m + 1) m _ _ (by lia) (by lia)]
    rfl
theorem packed_rep {n K : Nat} {c : Int} (hK : (run c n).length ≤ K) : packed (List.replicate n c) = mapd K (run c n) := by
  unfold packed
  have hc := chunks_len (List.replicate n c) n 0 (fun _ => none) (Nat.zero_le _) (fun y b e => by cases e)
  rw [List.length_replicate] at *
  rw [chunks_rep] at *
  exact mapd_fuel _ _ _ (by lia) hK
noncomputable def plainL (far : Nat) : List Int := [1, 2, 3] ++ List.replicate (far - 3) 0 ++ [1, 2, 3]
noncomputable def loneC : List (List Int) := [[1], [2], [3]]
noncomputable def dueC (far : Nat) : List (List Int) := loneC ++ run 0 (far - 3) ++ (if far < 1024 then [[(far : Int) / 256, (far : Int) % 256]] else loneC)
theorem far_255 : packed (plainL 255) = mapd 2000 (dueC 255) := by decide +kernel
theorem far_256 : packed (plainL 256) = mapd 2000 (dueC 256) := by decide +kernel
theorem far_600 : packed (plainL 600) = mapd 2000 (dueC 600) := by decide +kernel
theorem far_1023 : packed (plainL 1023) = mapd 2000 (dueC 1023) := by decide +kernel
theorem far_1024 : packed (plainL 1024) = mapd 2000 (dueC 1024) := by decide +kernel
noncomputable def FAR (far : Nat) : Prop := far = 255 ∨ far = 256 ∨ far = 600 ∨ far = 1023 ∨ far = 1024
theorem far_all {far : Nat} (h : FAR far) : packed (plainL far) = mapd 2000 (dueC far) := by
  rcases h with rfl | rfl | rfl | rfl | rfl
  · exact far_255
  · exact far_256
  · exact far_600
  · exact far_1023
  · exact far_1024
theorem due_len {far : Nat} (h : FAR far) : (mapd 2000 (dueC far)).length ≤ 999 := by
  rcases h with rfl | rfl | rfl | rfl | rfl <;> decide +kernel
theorem plain_len {far : Nat} (h : FAR far) : (plainL far).length = far + 3 ∧ OB (plainL far) := by
  refine ⟨?_, ?_⟩
  · unfold plainL
    simp only [List.length_append, List.length_cons, List.length_nil, List.length_replicate]
    rcases h with rfl | rfl | rfl | rfl | rfl <;> rfl
  · unfold plainL
    have h3 : OB [1, 2, 3] := fun x hx => by
      simp only [List.mem_cons, List.not_mem_nil, or_false] at hx
      lia
    exact ob_app (ob_app h3 (ob_rep (by lia) _)) h3
theorem due_ok {far : Nat} (h : FAR far) : (dueC far).length ≤ 2000 ∧ ∀ x ∈ dueC far, x.length ≤ 2 := by
  obtain ⟨h1, h2⟩ := run_len 0 (far - 3)
  have hl : loneC.length = 3 := rfl
  have hl2 : ∀ x ∈ loneC, x.length ≤ 2 := by decide
  have hf : far ≤ 1024 := by rcases h with rfl | rfl | rfl | rfl | rfl <;> decide
  unfold dueC
  refine ⟨?_, fun x hx => ?_⟩
  · rw [List.length_append, List.length_append, hl]
    split
    · rw [List.length_singleton]; lia
    · rw [hl]; lia
  · rcases List.mem_append.mp hx with hx | hx
    · rcases List.mem_append.mp hx with hx | hx
      · exact hl2 x hx
      · exact h2 x hx
    · split at hx
      · rw [List.mem_singleton.mp hx]; simp
      · exact hl2 x hx
end Mine
end
section
/-! text E1 -/
set_option Elab.async false
set_option autoImplicit false
set_option linter.unusedVariables false
set_option linter.unusedSimpArgs false
namespace Mine
/-! the law -/
noncomputable def L1 : Mo FV := (mAsg 0 (mSlice (mLoc 0) (mPair (mNone) (mSome (mInt 63)))))
noncomputable def L2 : Mo FV := (mAsgS [.loc 1, .loc 2] (mTup (mCons (mCall f_law_octets (mCons (mLoc 0) (mNil))) (mCons (mCall fBytes (mCons (mComp (mLoc 0) 1 (setTG (.loc 0)) ((fun st => .ok true st)) (mBin .Mod (mLoc 0) (mInt 256))) (mNil))) (mNil)))))
noncomputable def L3 : Mo FV := (mAsgS [.loc 3, .loc 4] (mTup (mCons (mIf (mTruth (mNeL (mLoc 0) (mLst (mNil)))) (mSub (mLoc 0) (mInt 0)) (mInt 0)) (mCons (mBin .Mod (mCall fSum (mCons (mLoc 0) (mNil))) (mInt 90)) (mNil)))))
noncomputable def L4 : Mo FV := (mAsg 5 (mCall f_lzjb_pack (mCons (mLoc 1) (mCons (mInt 999) (mNil)))))
noncomputable def L5 : Mo FV := (mAsgT [.loc 6, .loc 7, .loc 8] (mCall f_law_read (mCons (mLoc 5) (mCons (mCall fLen (mCons (mLoc 1) (mNil))) (mNil)))))
noncomputable def L6 : Mo FV := (mIfS (mOr (mTruth (mCmp .NotEq (mLoc 6) (mLoc 1))) (mOr (mTruth (mCmp .NotEq (mLoc 8) (mCall fLen (mCons (mLoc 5) (mNil))))) (mOr (mNot (mTruth (mCall f_law_are_things (mCons (mLoc 1) (mCons (mLoc 7) (mNil)))))) ((fun st => .ok false st))))) (mSeq (mRet (mV (.bool false))) (mNext)) (mNext))
noncomputable def L7 : Mo FV := (mIfS (mOr (mTruth (mCmp .NotEq (mCall f_lzjb_pack (mCons (mLoc 1) (mCons (mCall fLen (mCons (mLoc 5) (mNil))) (mNil)))) (mLoc 5))) (mOr (mAnd (mTruth (mCmp .NotEq (mLoc 1) (mV (.bytes [])))) (mAnd (mTruth (mCmp .IsNot (mCall f_lzjb_pack (mCons (mLoc 1) (mCons (mBin .Sub (mCall fLen (mCons (mLoc 5) (mNil))) (mInt 1)) (mNil)))) (mV .none))) ((fun st => .ok true st)))) ((fun st => .ok false st)))) (mSeq (mRet (mV (.bool false))) (mNext)) (mNext))
noncomputable def L8 : Mo FV := (mIfS (mTruth (mNeL (mLst (mCons (mCall f_law_heard (mCons (mLoc 5) (mCons (mCall fLen (mCons (mLoc 1) (mNil))) (mNil)))) (mCons (mCall f_law_heard (mCons (mBin .Add (mLoc 5) (mLoc 2)) (mCons (mCall fLen (mCons (mLoc 1) (mNil))) (mNil)))) (mNil)))) (mLst (mCons (mLoc 1) (mCons (mLoc 1) (mNil)))))) (mSeq (mRet (mV (.bool false))) (mNext)) (mNext))
noncomputable def L9 : Mo FV := (mIfS (mTruth (mCmp .NotEq (mCall f_lzjb_pack (mCons (mBin .Mult (mCall fBytes (mCons (mLst (mCons (mBin .Mod (mLoc 3) (mInt 256)) (mNil))) (mNil))) (mBin .Mod (mLoc 3) (mInt 150))) (mCons (mInt 999) (mNil)))) (mCall f_law_mapped (mCons (mCall f_law_run (mCons (mBin .Mod (mLoc 3) (mInt 256)) (mCons (mBin .Mod (mLoc 3) (mInt 150)) (mNil)))) (mNil))))) (mSeq (mRet (mV (.bool false))) (mNext)) (mNext))
noncomputable def L10 : Mo FV := (mAsgS [.loc 9, .loc 10] (mTup (mCons (mSub (mLst (mCons (mInt 255) (mCons (mInt 256) (mCons (mInt 600) (mCons (mInt 1023) (mCons (mInt 1024) (mNil))))))) (mBin .Mod (mLoc 3) (mInt 5))) (mCons (mLst (mCons (mCall fBytes (mCons (mLst (mCons (mInt 1) (mNil))) (mNil))) (mCons (mCall fBytes (mCons (mLst (mCons (mInt 2) (mNil))) (mNil))) (mCons (mCall fBytes (mCons (mLst (mCons (mInt 3) (mNil))) (mNil))) (mNil))))) (mNil)))))
noncomputable def L11 : Mo FV := (mAsg 11 (mBin .Add (mBin .Add (mCall fBytes (mCons (mLst (mCons (mInt 1) (mCons (mInt 2) (mCons (mInt 3) (mNil))))) (mNil))) (mCall fBytes (mCons (mBin .Sub (mLoc 9) (mInt 3)) (mNil)))) (mCall fBytes (mCons (mLst (mCons (mInt 1) (mCons (mInt 2) (mCons (mInt 3) (mNil))))) (mNil)))))
noncomputable def L12 : Mo FV := (mAsg 12 (mCall f_law_mapped (mCons (mBin .Add (mBin .Add (mLoc 10) (mCall f_law_run (mCons (mInt 0) (mCons (mBin .Sub (mLoc 9) (mInt 3)) (mNil))))) (mIf (mTruth (mCmp .Lt (mLoc 9) (mInt 1024))) (mLst (mCons (mCall fBytes (mCons (mLst (mCons (mBin .FloorDiv (mLoc 9) (mInt 256)) (mCons (mBin .Mod (mLoc 9) (mInt 256)) (mNil)))) (mNil))) (mNil))) (mLoc 10))) (mNil))))
noncomputable def L13 : Mo FV := (mIfS (mTruth (mNeL (mLst (mCons (mCall f_lzjb_pack (mCons (mLoc 11) (mCons (mInt 999) (mNil)))) (mCons (mCall f_law_heard (mCons (mLoc 12) (mCons (mCall fLen (mCons (mLoc 11) (mNil))) (mNil)))) (mNil)))) (mLst (mCons (mLoc 12) (mCons (mLoc 11) (mNil)))))) (mSeq (mRet (mV (.bool false))) (mNext)) (mNext))
noncomputable def L14 : Mo FV := (mAsg 13 (mLstC (mCons (mTup (mCons (mLoc 5) (mCons (mLoc 4) (mNil)))) (mCons (mTup (mCons (mLoc 2) (mCons (mLoc 4) (mNil)))) (mNil)))))
noncomputable def L15 : Mo FV := (mIfS (mTruth (mCmp .NotEq (mLoc 1) (mV (.bytes [])))) (mSeq (mAsg 14 (mBin .Mod (mLoc 3) (mCall fLen (mCons (mLoc 5) (mNil))))) (mSeq (mAsg 15 (mBin .Add (mBin .Add (mSlice (mLoc 5) (mPair (mNone) (mSome (mLoc 14)))) (mCall fBytes (mCons (mLst (mCons (mBin .Mod (mBin .Add (mSub (mLoc 5) (mLoc 14)) (mBin .FloorDiv (mLoc 3) (mInt 170))) (mInt 256)) (mNil))) (mNil)))) (mSlice (mLoc 5) (mPair (mSome (mBin .Add (mLoc 14) (mInt 1))) (mNone))))) (mSeq (mDrop (mMeth fExtendL isListC (mLoc 13) (mCons (mLst (mCons (mTup (mCons (mSlice (mLoc 5) (mPair (mNone) (mSome (mLoc 14)))) (mCons (mCall fLen (mCons (mLoc 1) (mNil))) (mNil)))) (mCons (mTup (mCons (mLoc 15) (mCons (mCall fLen (mCons (mLoc 1) (mNil))) (mNil)))) (mNil)))) (mNil)))) (mNext)))) (mNext))
noncomputable def L16 : Mo FV := (mRet (mCall fAll (mCons (mComp (mLoc 13) 2 (setTup [.loc 0, .loc 1]) ((fun st => .ok true st)) (mCmp .Eq (mCall (fun vs st => (f_law_heard vs st).noExc) (mCons (mLoc 0) (mCons (mLoc 1) (mNil)))) (mSub (mCall (fun vs st => (f_law_read vs st).noExc) (mCons (mLoc 0) (mCons (mLoc 1) (mNil)))) (mInt 0)))) (mNil))))
theorem law_eq : d_law = mSeq L1 (mSeq L2 (mSeq L3 (mSeq L4 (mSeq L5 (mSeq L6 (mSeq L7 (mSeq L8 (mSeq L9 (mSeq L10 (mSeq L11 (mSeq L12 (mSeq L13 (mSeq L14 (mSeq L15 (mSeq L16 mNext))))))))))))))) := by
  unfold d_law L1 L2 L3 L4 L5 L6 L7 L8 L9 L10 L11 L12 L13 L14 L15 L16
  rfl
noncomputable def LS (a0 a1 a2 a3 a4 a5 a6 a7 a8 a9 a10 a11 a12 a13 a14 a15 : Option V) (cs : List Cell) : St := ⟨[a0, a1, a2, a3, a4, a5, a6, a7, a8, a9, a10, a11, a12, a13, a14, a15], cs⟩
section
variable {a0 a1 a2 a3 a4 a5 a6 a7 a8 a9 a10 a11 a12 a13 a14 a15 : Option V} {cs : List Cell}
theorem l_1 {ns : List Int} (h : ns.length ≤ 63) : L1 (LS (some (.lst (ns.map .int))) a1 a2 a3 a4 a5 a6 a7 a8 a9 a10 a11 a12 a13 a14 a15 cs) = .ok .next (LS (some (.lst (ns.map .int))) a1 a2 a3 a4 a5 a6 a7 a8 a9 a10 a11 a12 a13 a14 a15 cs) := by
  have hs : ∀ st, sliceV (.lst (ns.map .int)) (none, some 63) st = .ok (.lst (ns.map .int)) st := by
    intro st
    rw [slice_lst (by rw [List.length_map]; lia)]
    have := cut_to 63 (ns.map V.int)
    rw [List.take_of_length_le (by rw [List.length_map]; exact h)] at this
    exact congrArg (fun x => R.ok (V.lst x) st) this
  simp (disch := lia) only [L1, mAsg, mSlice, mLoc, LS, List.getElem?_cons_zero, mPair, mNone, mSome, mInt, R_bind_ok, hs, List.set_cons_zero]
noncomputable def rawC : Mo V := (mComp (mLoc 0) 1 (setTG (.loc 0)) ((fun st => .ok true st)) (mBin .Mod (mLoc 0) (mInt 256)))
theorem raw_elt {n : Int} {cs : List Cell} : (mBin .Mod (mLoc 0) (mInt 256)) ⟨[some (.int n)], cs⟩ = .ok (.int (n % 256)) ⟨[some (.int n)], cs⟩ := by
  simp (disch := lia) only [mBin, mLoc, List.getElem?_cons_zero, mInt, R_bind_ok, bin_mod]
noncomputable def rawOf (ns : List Int) : List Int := ns.map fun n => n % 256
theorem raw_ob (ns : List Int) : OB (rawOf ns) := fun x hx => by
  obtain ⟨n, _, rfl⟩ := List.mem_map.mp hx
  lia
theorem map_range (ns : List Int) : (List.range ns.length).map (fun k : Nat => V.int (gI ns k % 256)) = (rawOf ns).map .int := by
  unfold rawOf
  rw [List.map_map]
  apply List.ext_getElem
  · simp
  · intro i h1 h2
    rw [List.length_map, List.length_range] at h1
    rw [List.getElem_map, List.getElem_range, List.getElem_map, gI_get h1]
    rfl
theorem raw_comp {ns : List Int} {l : List (Option V)} (h : ns.length ≤ 63) : rawC ⟨some (.lst (ns.map .int)) :: l, []⟩ = .ok (.lst ((rawOf ns).map .int)) ⟨some (.lst (ns.map .int)) :: l, []⟩ := by
  have key := comp_spec (d := mLoc 0) (src := .list (.lst (ns.map .int))) (asg := setTG (.loc 0)) (t := fun st => .ok true st) (e := (mBin .Mod (mLoc 0) (mInt 256))) (nl := 1) (N := ns.length) (st := ⟨some (.lst (ns.map .int)) :: l, []⟩) (v := .lst (ns.map .int))
    (fun i => .int (gI ns i)) (fun _ => true) (fun k => .int (gI ns k % 256)) (by lia) rfl (src_lst (by rw [List.length_map]; lia)) (by
      show (ns.map V.int).length + 1 = _
      rw [List.length_map]) rfl (by rw [filter_all, map_range]; exact flats_ints _) (fun i l ws h => src_ints h) (by
      intro i l ws hi hl
      obtain ⟨a, rfl⟩ : ∃ a, l = [a] := by
        cases l with
        | nil => simp at hl
        | cons a l => cases l with
          | nil => exact ⟨a, rfl⟩
          | cons b l => simp at hl
      exact ⟨[some (.int (gI ns i))], rfl, rfl, rfl, fun _ => raw_elt⟩)
  rw [filter_all, map_range] at key
  exact key
theorem l_2 {ns : List Int} (h : ns.length ≤ 63) : ∃ o, OB o ∧ o.length ≤ 128 ∧ L2 (LS (some (.lst (ns.map .int))) a1 a2 a3 a4 a5 a6 a7 a8 a9 a10 a11 a12 a13 a14 a15 []) = .ok .next (LS (some (.lst (ns.map .int))) (some (.bytes o)) (some (.bytes (rawOf ns))) a3 a4 a5 a6 a7 a8 a9 a10 a11 a12 a13 a14 a15 []) := by
  obtain ⟨o, h1, h2, h3⟩ := a_octets h
  refine ⟨o, h1, h2, ?_⟩
  have hc := fun l => raw_comp (l := l) h
  have hb : ∀ st, fBytes [.lst ((rawOf ns).map .int)] st = .ok (.bytes (rawOf ns)) st := fun st => bytes_ints (raw_ob ns) (by unfold rawOf; rw [List.length_map]; lia)
  unfold rawC at hc
  simp (disch := lia) only [L2, mAsgS, mTup, mCons, mCall, mLoc, LS, List.getElem?_cons_zero, mNil, R_bind_ok, h3, hc, hb, List.length_cons, List.length_nil, Nat.reduceAdd, Nat.reduceLeDiff, if_true, List.reverse_cons, List.reverse_nil, List.nil_append, List.cons_append, setTGs, setTG, mSet, List.set_cons_succ, List.set_cons_zero]
noncomputable def placeOf (ns : List Int) : Int := ns.headD 0
noncomputable def sizeOf_ (ns : List Int) : Nat := (ns.sum % 90).toNat
theorem l_3 {ns : List Int} (h : ns.length ≤ 63) : L3 (LS (some (.lst (ns.map .int))) a1 a2 a3 a4 a5 a6 a7 a8 a9 a10 a11 a12 a13 a14 a15 cs) = .ok .next (LS (some (.lst (ns.map .int))) a1 a2 (some (.int (placeOf ns))) (some (.int (sizeOf_ ns : Nat))) a5 a6 a7 a8 a9 a10 a11 a12 a13 a14 a15 cs) := by
  have hs : ∀ st, fSum [.lst (ns.map .int)] st = .ok (.int ns.sum) st := by
    intro st
    simp only [fSum, listOf, intsOf_map]
  have hz : ns.sum % 90 = ((sizeOf_ ns : Nat) : Int) := by unfold sizeOf_; lia
  cases ns with
  | nil =>
    have hn : ∀ st, neL (.lst []) (.lst []) st = .ok (.bool false) st := fun st => rfl
    rw [List.map_nil] at *
    have hp : placeOf [] = 0 := rfl
    rw [hp]
    simp (disch := lia) only [L3, mAsgS, mTup, mCons, mIf, mTruth, mNeL, mLoc, LS, List.getElem?_cons_zero, mLst, mNil, R_bind_ok, List.length_nil, Nat.reduceLeDiff, if_true, hn, truthV, mSub, mInt, Bool.false_eq_true, if_false, mBin, mCall, hs, bin_mod, hz, List.length_cons, Nat.reduceAdd, List.reverse_cons, List.reverse_nil, List.nil_append, List.cons_append, setTGs, setTG, mSet, List.set_cons_succ, List.set_cons_zero]
  | cons n ns =>
    have hn : ∀ st, neL (.lst (.int n :: ns.map .int)) (.lst []) st = .ok (.bool true) st := fun st => rfl
    have hp : placeOf (n :: ns) = n := rfl
    rw [List.map_cons] at hs
    have hsub : ∀ st, subV (.lst (.int n :: ns.map .int)) (.int 0) st = .ok (.int n) st := by
      intro st
      have hl : (V.int n :: ns.map .int).length ≤ 1048576 := by
        rw [List.length_cons, List.length_map]
        rw [List.length_cons] at h
        lia
      exact if_pos ⟨by lia, by rw [List.length_cons]; lia, hl⟩
    rw [hp]
    simp (disch := lia) only [L3, mAsgS, mTup, mCons, mIf, mTruth, mNeL, mLoc, LS, List.map_cons, List.getElem?_cons_zero, mLst, mNil, R_bind_ok, List.length_nil, Nat.reduceLeDiff, if_true, hn, truthV, mSub, mInt, hsub, mBin, mCall, hs, bin_mod, hz, List.length_cons, Nat.reduceAdd, List.reverse_cons, List.reverse_nil, List.nil_append, List.cons_append, setTGs, setTG, mSet, List.set_cons_succ, List.set_cons_zero]
end
end Mine
end
section
/-! text E2 -/
set_option Elab.async false
set_option autoImplicit false
set_option linter.unusedVariables false
set_option linter.unusedSimpArgs false
namespace Mine
theorem rdd_T {ks : List Int} {z : Nat} {y : RX} (hk : OB ks) (hl : ks.length ≤ 4000) (hz : z ≤ 4000) (h : rdd ks z = some y) : y.T.length ≤ 90000 := by
  have := r_loop hk hl hz ⟨none, none, none, none, none, none, none⟩
  unfold rPost at this
  rw [h] at this
  exact this.2.2.1
section
variable {a0 a1 a2 a3 a4 a5 a6 a7 a8 a9 a10 a11 a12 a13 a14 a15 : Option V} {cs : List Cell} {o raw : List Int}
theorem l_4 (ho : OB o) (hl : o.length ≤ 128) : L4 (LS a0 (some (.bytes o)) a2 a3 a4 a5 a6 a7 a8 a9 a10 a11 a12 a13 a14 a15 cs) = .ok .next (LS a0 (some (.bytes o)) a2 a3 a4 (some (.bytes (packed o))) a6 a7 a8 a9 a10 a11 a12 a13 a14 a15 cs) := by
  have hpl := packed_len (by lia) ho
  have hp : ∀ st, f_lzjb_pack [.bytes o, .int 999] st = .ok (.bytes (packed o)) st := by
    intro st
    rw [a_pack ho (by lia), if_pos (.inr (by lia))]
  simp (disch := lia) only [L4, mAsg, mCall, mCons, mLoc, LS, List.getElem?_cons_succ, List.getElem?_cons_zero, mInt, mNil, R_bind_ok, hp, List.set_cons_succ, List.set_cons_zero]
theorem l_5 (ho : OB o) (hl : o.length ≤ 128) : ∃ T : List T3, T.length ≤ 90000 ∧ (∀ p ∈ T, tOK o p) ∧ L5 (LS a0 (some (.bytes o)) a2 a3 a4 (some (.bytes (packed o))) a6 a7 a8 a9 a10 a11 a12 a13 a14 a15 cs) = .ok .next (LS a0 (some (.bytes o)) a2 a3 a4 (some (.bytes (packed o))) (some (.bytes o)) (some (.lst (T.map tv))) (some (.int ((packed o).length : Int))) a9 a10 a11 a12 a13 a14 a15 cs) := by
  have hpl := packed_len (by lia) ho
  have hpo := packed_ob ho
  obtain ⟨T, h1, h2⟩ := read_packed (ks := o) (S := []) (by rw [List.append_nil]; exact hpo)
  rw [List.append_nil] at h1
  have hT := rdd_T hpo (by lia) (by lia) h1
  have hr := a_read (ks := packed o) (z := o.length) hpo (by lia) (by lia)
  rw [h1] at hr
  dsimp only at hr
  rw [List.take_length] at hr
  refine ⟨T, hT, h2, ?_⟩
  simp (disch := lia) only [L5, mAsgT, mCall, mCons, mLoc, LS, List.getElem?_cons_succ, List.getElem?_cons_zero, mNil, R_bind_ok, len_bytes, hr, List.length_cons, List.length_nil, Nat.reduceAdd, setTGs, setTG, mSet, List.set_cons_succ, List.set_cons_zero, if_true]
theorem l_6 {T : List T3} (hl : o.length ≤ 128) (hp : (packed o).length ≤ 4000) (hT : T.length ≤ 90000) (h : ∀ p ∈ T, tOK o p) : L6 (LS a0 (some (.bytes o)) a2 a3 a4 (some (.bytes (packed o))) (some (.bytes o)) (some (.lst (T.map tv))) (some (.int ((packed o).length : Int))) a9 a10 a11 a12 a13 a14 a15 cs) = .ok .next (LS a0 (some (.bytes o)) a2 a3 a4 (some (.bytes (packed o))) (some (.bytes o)) (some (.lst (T.map tv))) (some (.int ((packed o).length : Int))) a9 a10 a11 a12 a13 a14 a15 cs) := by
  have ht := fun st => a_things (st := st) (by lia) hT h
  have e1 : (o != o) = false := bne_self_eq_false o
  have e2 : (((packed o).length : Int) != ((packed o).length : Int)) = false := bne_self_eq_false _
  unfold L6
  refine ifS_f ((or_f (st' := LS a0 (some (.bytes o)) a2 a3 a4 (some (.bytes (packed o))) (some (.bytes o)) (some (.lst (T.map tv))) (some (.int ((packed o).length : Int))) a9 a10 a11 a12 a13 a14 a15 cs) ?_).trans ((or_f (st' := LS a0 (some (.bytes o)) a2 a3 a4 (some (.bytes (packed o))) (some (.bytes o)) (some (.lst (T.map tv))) (some (.int ((packed o).length : Int))) a9 a10 a11 a12 a13 a14 a15 cs) ?_).trans ((or_f (st' := LS a0 (some (.bytes o)) a2 a3 a4 (some (.bytes (packed o))) (some (.bytes o)) (some (.lst (T.map tv))) (some (.int ((packed o).length : Int))) a9 a10 a11 a12 a13 a14 a15 cs) ?_).trans rfl)))
  · simp (disch := lia) only [mTruth, mCmp, mLoc, LS, List.getElem?_cons_succ, List.getElem?_cons_zero, cmpV, eqV, neV, ordV, isV, isNotV, R_bind_ok, e1, truthV]
  · simp (disch := lia) only [mTruth, mCmp, mLoc, LS, List.getElem?_cons_succ, List.getElem?_cons_zero, mCall, mCons, mNil, R_bind_ok, cmpV, eqV, neV, ordV, isV, isNotV, len_bytes, e2, truthV]
  · simp (disch := lia) only [mNot, mTruth, mCall, mCons, mLoc, LS, List.getElem?_cons_succ, List.getElem?_cons_zero, mNil, R_bind_ok, ht, truthV, Bool.not_true]
theorem l_7 (ho : OB o) (hl : o.length ≤ 128) : L7 (LS a0 (some (.bytes o)) a2 a3 a4 (some (.bytes (packed o))) a6 a7 a8 a9 a10 a11 a12 a13 a14 a15 cs) = .ok .next (LS a0 (some (.bytes o)) a2 a3 a4 (some (.bytes (packed o))) a6 a7 a8 a9 a10 a11 a12 a13 a14 a15 cs) := by
  have hpl := packed_len (by lia) ho
  have hp : ∀ st, f_lzjb_pack [.bytes o, .int ((packed o).length : Int)] st = .ok (.bytes (packed o)) st := by
    intro st
    rw [a_pack ho (by lia), if_pos (.inr (by lia))]
  have e1 : (packed o != packed o) = false := bne_self_eq_false _
  unfold L7
  refine ifS_f ((or_f (st' := LS a0 (some (.bytes o)) a2 a3 a4 (some (.bytes (packed o))) a6 a7 a8 a9 a10 a11 a12 a13 a14 a15 cs) ?_).trans ((or_f (st' := LS a0 (some (.bytes o)) a2 a3 a4 (some (.bytes (packed o))) a6 a7 a8 a9 a10 a11 a12 a13 a14 a15 cs) ?_).trans rfl))
  · simp (disch := lia) only [mTruth, mCmp, mCall, mCons, mLoc, LS, List.getElem?_cons_succ, List.getElem?_cons_zero, mNil, R_bind_ok, len_bytes, hp, cmpV, eqV, neV, ordV, isV, isNotV, e1, truthV]
  · by_cases hn : o = []
    · refine and_f ?_
      have e : (o != ([] : List Int)) = false := by rw [hn]; rfl
      simp (disch := lia) only [mTruth, mCmp, mLoc, LS, List.getElem?_cons_succ, List.getElem?_cons_zero, mV, cmpV, eqV, neV, ordV, isV, isNotV, R_bind_ok, e, truthV]
    · have e : (o != ([] : List Int)) = true := bne_iff_ne.mpr hn
      refine (and_t (st' := LS a0 (some (.bytes o)) a2 a3 a4 (some (.bytes (packed o))) a6 a7 a8 a9 a10 a11 a12 a13 a14 a15 cs) ?_).trans (and_f ?_)
      · simp (disch := lia) only [mTruth, mCmp, mLoc, LS, List.getElem?_cons_succ, List.getElem?_cons_zero, mV, cmpV, eqV, neV, ordV, isV, isNotV, R_bind_ok, e, truthV]
      · have hp2 : ∀ st, f_lzjb_pack [.bytes o, .int (((packed o).length : Int) - 1)] st = .ok .none st := by
          intro st
          rw [a_pack ho (by lia), if_neg (by rintro (h | h); exact hn h; lia)]
        simp (disch := lia) only [mTruth, mCmp, mCall, mCons, mLoc, LS, List.getElem?_cons_succ, List.getElem?_cons_zero, mBin, mNil, R_bind_ok, mInt, len_bytes, bin_sub, hp2, mV, cmpV, eqV, neV, ordV, isV, isNotV, truthV]
theorem ne_two {a b : List Int} {st : St} : neL (.lst [.bytes a, .bytes b]) (.lst [.bytes a, .bytes b]) st = .ok (.bool false) st := by
  have e : neL (.lst [.bytes a, .bytes b]) (.lst [.bytes a, .bytes b]) st = .ok (.bool (!([a, b] == [a, b]))) st := rfl
  rw [e, beq_self_eq_true]; rfl
theorem heard_packed (ho : OB o) (hr : OB raw) (hl : o.length ≤ 2000) (hrl : raw.length ≤ 1000) (hp : (packed o).length ≤ 3000) {st : St} : f_law_heard [.bytes (packed o ++ raw), .int (o.length : Int)] st = .ok (.bytes o) st := by
  have hob := ob_app (packed_ob ho) hr
  rw [heard_eq hob (by rw [List.length_append]; lia) (by lia), unpacked_packed hob]
theorem l_8 (ho : OB o) (hr : OB raw) (hl : o.length ≤ 128) (hrl : raw.length ≤ 100) : L8 (LS a0 (some (.bytes o)) (some (.bytes raw)) a3 a4 (some (.bytes (packed o))) a6 a7 a8 a9 a10 a11 a12 a13 a14 a15 cs) = .ok .next (LS a0 (some (.bytes o)) (some (.bytes raw)) a3 a4 (some (.bytes (packed o))) a6 a7 a8 a9 a10 a11 a12 a13 a14 a15 cs) := by
  have hpl := packed_len (by lia) ho
  have h1 : ∀ st, f_law_heard [.bytes (packed o), .int (o.length : Int)] st = .ok (.bytes o) st := by
    intro st
    have := heard_packed (raw := []) (st := st) ho (fun x hx => by cases hx) (by lia) (by simp) (by lia)
    rw [List.append_nil] at this
    exact this
  have h2 := fun st => heard_packed (st := st) ho hr (by lia) (by lia) (by lia)
  unfold L8
  refine ifS_f (st' := LS a0 (some (.bytes o)) (some (.bytes raw)) a3 a4 (some (.bytes (packed o))) a6 a7 a8 a9 a10 a11 a12 a13 a14 a15 cs) ?_
  simp (disch := lia) only [mTruth, mNeL, mLst, mCons, mCall, mLoc, LS, List.getElem?_cons_succ, List.getElem?_cons_zero, mNil, R_bind_ok, len_bytes, h1, mBin, bin_cat, h2, List.length_cons, List.length_nil, Nat.reduceAdd, Nat.reduceLeDiff, if_true, ne_two, truthV]
theorem l_9 {place : Int} : L9 (LS a0 a1 a2 (some (.int place)) a4 a5 a6 a7 a8 a9 a10 a11 a12 a13 a14 a15 cs) = .ok .next (LS a0 a1 a2 (some (.int place)) a4 a5 a6 a7 a8 a9 a10 a11 a12 a13 a14 a15 cs) := by
  have hc : 0 ≤ place % 256 ∧ place % 256 < 256 := by lia
  have hn : place % 150 = (((place % 150).toNat : Nat) : Int) := by lia
  have hn2 : (place % 150).toNat < 150 := by lia
  generalize hC : place % 256 = C at *
  generalize hN : (place % 150).toNat = N at *
  have hb : ∀ st, fBytes [.lst [.int C]] st = .ok (.bytes [C]) st := fun st => bytes_one hc
  have hm : ∀ st, binV .Mult (.bytes [C]) (.int (N : Int)) st = .ok (.bytes (List.replicate N C)) st := by
    intro st
    rw [mul_bytes (by lia), Int.toNat_natCast]
  have hob := ob_rep hc N
  have hpl := packed_len (ks := List.replicate N C) (by rw [List.length_replicate]; lia) hob
  rw [List.length_replicate] at hpl
  have hp : ∀ st, f_lzjb_pack [.bytes (List.replicate N C), .int 999] st = .ok (.bytes (packed (List.replicate N C))) st := by
    intro st
    rw [a_pack hob (by rw [List.length_replicate]; lia), if_pos (.inr (by lia))]
  obtain ⟨r1, r2⟩ := run_len C N
  have hr : ∀ st, f_law_run [.int C, .int (N : Int)] st = .ok (.lst ((run C N).map .bytes)) st := fun st => a_run hc (by lia)
  have hd : ∀ st, f_law_mapped [.lst ((run C N).map .bytes)] st = .ok (.bytes (mapd 200 (run C N))) st := fun st => a_mapped (by lia) r2 (by lia)
  have hpr : packed (List.replicate N C) = mapd 200 (run C N) := packed_rep (by lia)
  rw [hpr] at hp
  have e : (mapd 200 (run C N) != mapd 200 (run C N)) = false := bne_self_eq_false _
  unfold L9
  refine ifS_f (st' := LS a0 a1 a2 (some (.int place)) a4 a5 a6 a7 a8 a9 a10 a11 a12 a13 a14 a15 cs) ?_
  clear r1 hpl hpr
  simp (disch := lia) only [mTruth, mCmp, mCall, mCons, mBin, mLst, mLoc, LS, List.getElem?_cons_succ, List.getElem?_cons_zero, mInt, R_bind_ok, bin_mod, hC, mNil, List.length_cons, List.length_nil, Nat.reduceAdd, Nat.reduceLeDiff, if_true, hb, hn, hm, hp, cmpV, eqV, neV, ordV, isV, isNotV, hr, hd, e, truthV]
end
end Mine
end
section
/-! text E3 -/
set_option Elab.async false
set_option autoImplicit false
set_option linter.unusedVariables false
set_option linter.unusedSimpArgs false
namespace Mine
section
variable {a0 a1 a2 a3 a4 a5 a6 a7 a8 a9 a10 a11 a12 a13 a14 a15 : Option V} {cs : List Cell}
theorem far_ix {i : Int} (h : 0 ≤ i ∧ i < 5) : ∃ far : Nat, FAR far ∧ ∀ st, subV (.lst [.int 255, .int 256, .int 600, .int 1023, .int 1024]) (.int i) st = .ok (.int (far : Int)) st := by
  have e : ∀ st, subV (.lst [.int 255, .int 256, .int 600, .int 1023, .int 1024]) (.int i) st = .ok ([.int 255, .int 256, .int 600, .int 1023, .int 1024].getD i.toNat .none) st := fun st => if_pos ⟨h.1, by simp only [List.length_cons, List.length_nil]; lia, by simp only [List.length_cons, List.length_nil]; lia⟩
  have hi : i = 0 ∨ i = 1 ∨ i = 2 ∨ i = 3 ∨ i = 4 := by lia
  rcases hi with rfl | rfl | rfl | rfl | rfl
  · exact ⟨255, .inl rfl, e⟩
  · exact ⟨256, .inr (.inl rfl), e⟩
  · exact ⟨600, .inr (.inr (.inl rfl)), e⟩
  · exact ⟨1023, .inr (.inr (.inr (.inl rfl))), e⟩
  · exact ⟨1024, .inr (.inr (.inr (.inr rfl))), e⟩
theorem l_10 {place : Int} : ∃ far : Nat, FAR far ∧ L10 (LS a0 a1 a2 (some (.int place)) a4 a5 a6 a7 a8 a9 a10 a11 a12 a13 a14 a15 cs) = .ok .next (LS a0 a1 a2 (some (.int place)) a4 a5 a6 a7 a8 (some (.int (far : Int))) (some (.lst (loneC.map .bytes))) a11 a12 a13 a14 a15 cs) := by
  obtain ⟨far, h1, h2⟩ := far_ix (i := place % 5) (by lia)
  refine ⟨far, h1, ?_⟩
  have b1 : ∀ st, fBytes [.lst [.int 1]] st = .ok (.bytes [1]) st := fun st => bytes_one (by lia)
  have b2 : ∀ st, fBytes [.lst [.int 2]] st = .ok (.bytes [2]) st := fun st => bytes_one (by lia)
  have b3 : ∀ st, fBytes [.lst [.int 3]] st = .ok (.bytes [3]) st := fun st => bytes_one (by lia)
  have hl : loneC.map V.bytes = [.bytes [1], .bytes [2], .bytes [3]] := rfl
  rw [hl]
  simp (disch := lia) only [L10, mAsgS, mTup, mCons, mSub, mLst, mInt, LS, mNil, R_bind_ok, List.length_cons, List.length_nil, Nat.reduceAdd, Nat.reduceLeDiff, if_true, mBin, mLoc, List.getElem?_cons_succ, List.getElem?_cons_zero, bin_mod, h2, mCall, b1, b2, b3, List.reverse_cons, List.reverse_nil, List.nil_append, List.cons_append, setTGs, setTG, mSet, List.set_cons_succ, List.set_cons_zero]
theorem bytes_zero {n : Nat} {st : St} (h : n ≤ 10000) : fBytes [.int (n : Int)] st = .ok (.bytes (List.replicate n 0)) st := by
  have : fBytes [.int (n : Int)] st = if 0 ≤ (n : Int) ∧ (n : Int) ≤ 1048576 then .ok (.bytes (List.replicate (n : Int).toNat 0)) st else .fail := rfl
  rw [this, if_pos (by lia), Int.toNat_natCast]
theorem l_11 {far : Nat} (h : FAR far) : L11 (LS a0 a1 a2 a3 a4 a5 a6 a7 a8 (some (.int (far : Int))) a10 a11 a12 a13 a14 a15 cs) = .ok .next (LS a0 a1 a2 a3 a4 a5 a6 a7 a8 (some (.int (far : Int))) a10 (some (.bytes (plainL far))) a12 a13 a14 a15 cs) := by
  have hf : 255 ≤ far ∧ far ≤ 1024 := by rcases h with rfl | rfl | rfl | rfl | rfl <;> decide
  have b1 : ∀ st, fBytes [.lst [.int 1, .int 2, .int 3]] st = .ok (.bytes [1, 2, 3]) st := fun st => bytes_ints (ns := [1, 2, 3]) (fun x hx => by
    simp only [List.mem_cons, List.not_mem_nil, or_false] at hx
    lia) (by simp)
  have e : (far : Int) - 3 = ((far - 3 : Nat) : Int) := by lia
  have b2 : ∀ st, fBytes [.int ((far - 3 : Nat) : Int)] st = .ok (.bytes (List.replicate (far - 3) 0)) st := fun st => bytes_zero (by lia)
  have c1 : ∀ st, binV .Add (.bytes [1, 2, 3]) (.bytes (List.replicate (far - 3) 0)) st = .ok (.bytes ([1, 2, 3] ++ List.replicate (far - 3) 0)) st := fun st => bin_cat (by
    rw [List.length_replicate]; show 3 + _ ≤ _; lia)
  have c2 : ∀ st, binV .Add (.bytes ([1, 2, 3] ++ List.replicate (far - 3) 0)) (.bytes [1, 2, 3]) st = .ok (.bytes (plainL far)) st := fun st => bin_cat (by
    rw [List.length_append, List.length_replicate]; show 3 + _ + 3 ≤ _; lia)
  unfold L11
  generalize plainL far = P at *
  generalize hQ : ([1, 2, 3] : List Int) ++ List.replicate (far - 3) (0 : Int) = Q at *
  generalize List.replicate (far - 3) (0 : Int) = R0 at *
  clear h hf hQ
  simp (disch := lia) only [mAsg, mBin, mCall, mCons, mLst, mInt, LS, mNil, R_bind_ok, List.length_cons, List.length_nil, Nat.reduceAdd, Nat.reduceLeDiff, if_true, b1, mLoc, List.getElem?_cons_succ, List.getElem?_cons_zero, bin_sub, e, b2, c1, c2, List.set_cons_succ, List.set_cons_zero]
theorem add_lst {a b : List V} {st : St} (h : a.length + b.length ≤ 1000000) : binV .Add (.lst a) (.lst b) st = .ok (.lst (a ++ b)) st := if_pos h
theorem l_12 {far : Nat} (h : FAR far) : L12 (LS a0 a1 a2 a3 a4 a5 a6 a7 a8 (some (.int (far : Int))) (some (.lst (loneC.map .bytes))) a11 a12 a13 a14 a15 cs) = .ok .next (LS a0 a1 a2 a3 a4 a5 a6 a7 a8 (some (.int (far : Int))) (some (.lst (loneC.map .bytes))) a11 (some (.bytes (mapd 2000 (dueC far)))) a13 a14 a15 cs) := by
  have hf : 255 ≤ far ∧ far ≤ 1024 := by rcases h with rfl | rfl | rfl | rfl | rfl <;> decide
  obtain ⟨d1, d2⟩ := due_ok h
  have hd : ∀ st, f_law_mapped [.lst ((dueC far).map .bytes)] st = .ok (.bytes (mapd 2000 (dueC far))) st := fun st => a_mapped (by lia) d2 d1
  have e : (far : Int) - 3 = ((far - 3 : Nat) : Int) := by lia
  have hr : ∀ st, f_law_run [.int 0, .int ((far - 3 : Nat) : Int)] st = .ok (.lst ((run 0 (far - 3)).map .bytes)) st := fun st => a_run (by lia) (by lia)
  obtain ⟨r1, _⟩ := run_len 0 (far - 3)
  have c1 : ∀ st, binV .Add (.lst (loneC.map .bytes)) (.lst ((run 0 (far - 3)).map .bytes)) st = .ok (.lst (loneC.map .bytes ++ (run 0 (far - 3)).map .bytes)) st := fun st => add_lst (by
    rw [List.length_map, List.length_map]; show 3 + _ ≤ _; lia)
  by_cases hlt : far < 1024
  · have hlt' : (far : Int) < 1024 := by lia
    have b2 : ∀ st, fBytes [.lst [.int ((far : Int) / 256), .int ((far : Int) % 256)]] st = .ok (.bytes [(far : Int) / 256, (far : Int) % 256]) st := fun st => bytes_two (by lia)
    have hdue : (dueC far).map V.bytes = loneC.map .bytes ++ (run 0 (far - 3)).map .bytes ++ [.bytes [(far : Int) / 256, (far : Int) % 256]] := by
      unfold dueC
      rw [if_pos hlt, List.map_append, List.map_append]; rfl
    have c2 : ∀ st, binV .Add (.lst (loneC.map .bytes ++ (run 0 (far - 3)).map .bytes)) (.lst [.bytes [(far : Int) / 256, (far : Int) % 256]]) st = .ok (.lst ((dueC far).map .bytes)) st := by
      intro st
      rw [hdue]
      exact add_lst (by rw [List.length_append, List.length_map, List.length_map]; show 3 + _ + 1 ≤ _; lia)
    unfold L12
    generalize mapd 2000 (dueC far) = D at *
    generalize (dueC far).map V.bytes = DV at *
    generalize loneC.map V.bytes = LV at *
    generalize (run 0 (far - 3)).map V.bytes = RV at *
    clear h d1 d2 r1 hdue
    simp (disch := lia) only [mAsg, mCall, mCons, mBin, mLoc, LS, List.getElem?_cons_succ, List.getElem?_cons_zero, mInt, R_bind_ok, mNil, bin_sub, e, hr, c1, mIf, mTruth, mCmp, cmpV, eqV, neV, ordV, isV, isNotV, mLst, hlt', decide_true, truthV, bin_div, bin_mod, List.length_cons, List.length_nil, Nat.reduceAdd, Nat.reduceLeDiff, if_true, b2, c2, hd, List.set_cons_succ, List.set_cons_zero]
  · have hlt' : ¬ (far : Int) < 1024 := by lia
    have hdue : (dueC far).map V.bytes = loneC.map .bytes ++ (run 0 (far - 3)).map .bytes ++ loneC.map .bytes := by
      unfold dueC
      rw [if_neg hlt, List.map_append, List.map_append]
    have c2 : ∀ st, binV .Add (.lst (loneC.map .bytes ++ (run 0 (far - 3)).map .bytes)) (.lst (loneC.map .bytes)) st = .ok (.lst ((dueC far).map .bytes)) st := by
      intro st
      rw [hdue]
      exact add_lst (by rw [List.length_append, List.length_map, List.length_map]; show 3 + _ + 3 ≤ _; lia)
    unfold L12
    generalize mapd 2000 (dueC far) = D at *
    generalize (dueC far).map V.bytes = DV at *
    generalize loneC.map V.bytes = LV at *
    generalize (run 0 (far - 3)).map V.bytes = RV at *
    clear h d1 d2 r1 hdue
    simp (disch := lia) only [mAsg, mCall, mCons, mBin, mLoc, LS, List.getElem?_cons_succ, List.getElem?_cons_zero, mInt, R_bind_ok, mNil, bin_sub, e, hr, c1, mIf, mTruth, mCmp, cmpV, eqV, neV, ordV, isV, isNotV, mLst, hlt', decide_false, truthV, Bool.false_eq_true, bin_div, bin_mod, List.length_cons, List.length_nil, Nat.reduceAdd, Nat.reduceLeDiff, if_true, if_false, c2, hd, List.set_cons_succ, List.set_cons_zero]
theorem l_13 {far : Nat} (h : FAR far) : L13 (LS a0 a1 a2 a3 a4 a5 a6 a7 a8 a9 a10 (some (.bytes (plainL far))) (some (.bytes (mapd 2000 (dueC far)))) a13 a14 a15 cs) = .ok .next (LS a0 a1 a2 a3 a4 a5 a6 a7 a8 a9 a10 (some (.bytes (plainL far))) (some (.bytes (mapd 2000 (dueC far)))) a13 a14 a15 cs) := by
  have hf : 255 ≤ far ∧ far ≤ 1024 := by rcases h with rfl | rfl | rfl | rfl | rfl <;> decide
  obtain ⟨p1, p2⟩ := plain_len h
  have hdl := due_len h
  have hp := far_all h
  have h1 : ∀ st, f_lzjb_pack [.bytes (plainL far), .int 999] st = .ok (.bytes (mapd 2000 (dueC far))) st := by
    intro st
    rw [a_pack p2 (by lia), hp, if_pos (.inr (by lia))]
  have h2 : ∀ st, f_law_heard [.bytes (mapd 2000 (dueC far)), .int ((plainL far).length : Int)] st = .ok (.bytes (plainL far)) st := by
    intro st
    have := heard_packed (o := plainL far) (raw := []) (st := st) p2 (fun x hx => by cases hx) (by lia) (by simp) (by rw [hp]; lia)
    rw [List.append_nil, hp] at this
    exact this
  have h3 : (plainL far).length ≤ 5000 := by lia
  unfold L13
  refine ifS_f (st' := LS a0 a1 a2 a3 a4 a5 a6 a7 a8 a9 a10 (some (.bytes (plainL far))) (some (.bytes (mapd 2000 (dueC far)))) a13 a14 a15 cs) ?_
  generalize mapd 2000 (dueC far) = D at *
  generalize plainL far = P at *
  clear h hp hdl p1 p2
  simp (disch := lia) only [mTruth, mNeL, mLst, mCons, mCall, mLoc, LS, List.getElem?_cons_succ, List.getElem?_cons_zero, mInt, mNil, R_bind_ok, h1, len_bytes, h2, List.length_cons, List.length_nil, Nat.reduceAdd, Nat.reduceLeDiff, if_true, ne_two, truthV]
end
end Mine
end
section
/-! text HD -/
open PySem PySem.W PyProof.Rows PySem.Calls
set_option Elab.async false
namespace Mine
open Sem (wp)
theorem wp_of_wpC_done {M : Model} {t : Sem Fin} {R : Result → Shared → Prop} {s : Shared}
    (h : wpC M callerA t (fun fin s' => ∃ f, fin = .done f ∧ R (.ok f) s') (fun e s' => R (.error e) s') s) (p : Pos) :
    wp M ⟨.builtin "claim.caller" {}, none, none, [], none⟩ t (Sem.finPost M ⟨.builtin "claim.caller" {}, none, none, [], none⟩ R) (fun e _ s' => R (.error e) s') p s := by
  refine Sem.wp_mono M _ t (fun fin p' s' h' => ?_) (fun _ _ _ h' => h') p s (h _ p caller_in (by decide +kernel) (fun x hx => absurd hx (by simp)))
  obtain ⟨f, rfl, hf⟩ := h'
  exact hf
theorem thread_ends_bothC {prog : Program} {w : World} {t : Sem Fin} {s : Shared} {R : Result → Shared → Prop} (hreg : s.asleep)
    (h : wpC (model prog w) callerA t (fun fin s' => ∃ f, fin = .done f ∧ (R (.ok f) s' ∧ leftWithCleanup s'.gens = false)) (fun e s' => R (.error e) s' ∧ leftWithCleanup s'.gens = false) s) :
    ∃ n r s' s'', runN (denote table) prog w n s ⟨t, .builtin "claim.caller" {}, default, []⟩ = .halted (outcomeOf r) s' ∧
      schedN (denote table) prog w n (.single s ⟨t, .builtin "claim.caller" {}, default, []⟩) = .halted (outcomeOf r) s' ∧ s'.forget = s''.forget ∧ R r s'' := by
  obtain ⟨n, r, s₁, s₂, hs, hn, hfo, hR⟩ := wp_halts_full (M := model prog w) (R := R) hreg (wp_of_wpC_done (R := fun r s' => R r s' ∧ leftWithCleanup s'.gens = false) h default)
  exact ⟨n, r, s₂, s₁, hn, hs, hfo, hR⟩
theorem callFrom_of_specC {c : ClaimW} {tree : List Value → Sem Fin} {w : World} {s : Shared} {free : Addr → Prop} {gens : Prop} {kept : Heap → Prop} (hz : s.asleep) (hgens : s.gens = #[])
    (hspec : ∀ args, c.pre args = true → WData.layableAll args = true →
      ∀ ord : List DictEntry → List DictEntry, (∀ l, (ord l).Perm l) →
      ∃ vs s₁, layAllW c.records (classAt s.heap) w.params ord args s = some (vs, s₁) ∧
        wpC (model c.prog w) callerA (tree vs) (fun fin s' => ∃ f, fin = .done f ∧ (c.Ends s args vs s₁ (.ok f) s' ∧ s'.os = s.os ∧ AllBare s'.gens ∧ kept s'.heap))
          (fun e s' => c.Ends s args vs s₁ (.error e) s' ∧ s'.os = s.os ∧ AllBare s'.gens ∧ kept s'.heap) s₁) :
    c.CallFrom (fun vs => ⟨tree vs, .builtin "claim.caller" {}, default, []⟩) w free gens kept s := by
  intro args hpre hlay ord hord
  obtain ⟨vs, s₁, hlaid, hcode⟩ := hspec args hpre hlay ord hord
  have hal := layAllW_rest _ _ _ hlaid
  obtain ⟨k, r, s', s'', hrun, hsched, hfo, hcase, hos, hkp⟩ := thread_ends_bothC (prog := c.prog) (w := w) (t := tree vs) (s := s₁)
    (R := fun r s' => c.Ends s args vs s₁ r s' ∧ s'.os = s.os ∧ kept s'.heap)
    (Shared.asleep_of_life hal.2.2.2 hz)
    (wpC_mono hcode (by
      rintro fin s' ⟨f, e, h1, h2, h3, h4⟩
      exact ⟨f, e, ⟨h1, h2, h4⟩, leftWithCleanup_false_of_bare h3⟩) (by
      rintro e s' ⟨h1, h2, h3, h4⟩
      exact ⟨⟨h1, h2, h4⟩, leftWithCleanup_false_of_bare h3⟩))
  obtain ⟨eh, _, _, eo, _⟩ := Shared.forget_eq hfo
  have hcase := hcase.congr eh
  have hkp : kept s'.heap := by first | exact eh ▸ hkp | (rw [eh] at hkp; exact hkp) | (rw [← eh] at hkp; exact hkp)
  rw [← eo] at hos
  have hlife : s'.heap.life = s.heap.life := (runN_life _ _ _ hrun).trans hal.2.2.2
  refine ⟨vs, s₁, hlaid, k, _, s', hsched, ?_, (fun _ i x hx => by rw [hgens] at hx; simp at hx), hkp, by rw [hlife], Shared.rest_eq hos⟩
  rcases hcase with ⟨v, rfl, d1, d2, d3, d4, d5⟩ | ⟨e, ob, cls, rfl, d1, d2, d3, d4, d5⟩
  · exact .inl ⟨v, rfl, d1, d2, d3, fun b o y _ => d4 b o y, d5⟩
  · exact .inr ⟨e, ob, cls, rfl, d1, d2, d3, d4, fun b o y _ => d5 b o y⟩

theorem open_anyC {r : RowW} {run : Value → List Value → Sem Value} {tree : List Value → Sem Fin} {q : Program} {loose defs kps : List Str} {writes : Bool} {Xt : Shared → Bool} {XP : (Str → Option Value) → Heap → Prop} {α : Type} {Yf : Shared → α} {Ya : World → α} {YP : World → Heap → Prop} {N : Nat}
    (left : LeftO r.prog q loose Xt Yf Ya N) (hY : ∀ w s, Yf s = Ya w → YP w s.heap) (hYk : ∀ w h h', YP w h → (∀ b o, h.get? b = some o → h'.get? b = some o) → YP w h') (hX : ∀ s, Xt s = true → XP (s.heap.nsMap mainGlobals) s.heap) (hXk : ∀ mg h h', XP mg h → (∀ b o, h.get? b = some o → h'.get? b = some o) → XP mg h')
    (hRf : ∀ s, Xt s = true → RecFacts r.records s.heap) (hwr : (!writes || r.records.isEmpty) = true) (ok : (chainsOk q && opensWell r.prog && (frees r && r.within.isEmpty)) = true) (hb : r.prog.bare) (hw : r.promised)
    (ht : ∀ vs (w : World) (s : Shared) mg f (Q : Fin → Shared → Prop) (E : Value → Shared → Prop), s.heap.Ns mainGlobals mg → mg r.name = some f → wpC (model r.prog w) callerA (run f vs) (fun v s' => Q (.done (.ret v)) s') E s → wpC (model r.prog w) callerA (tree vs) Q E s)
    (pin : ∀ w s, s.heap.isNs mainGlobals = true → Ground q loose [] XP w s (s.heap.nsMap mainGlobals) (s.heap.nsMap builtinsNs) s.heap → ∀ n ∈ defs, isTheDefsW r.prog s.heap n)
    (call : ∀ (w : World) (s₀ s₁ : Shared) (mg mb : Str → Option Value), Ground q loose r.records XP w s₀ mg mb s₁.heap → YP w s₁.heap → ∀ (args : List WData) (vs : List Value) (as : List Addr),
      r.claim.pre args = true → WData.layableAll args = true → Laid r.records w s₀ s₁ args vs as → sysModules < s₀.heap.objs.size → ∃ f, mg r.name = some f ∧
        wpC (model r.prog w) callerA (run f vs) (fun v s' => GoodWG r.claim (classAt s₀.heap) (ExcName.means s₀.heap) args s₁ (.ok (.ret v)) s')
          (fun e s' => GoodWG r.claim (classAt s₀.heap) (ExcName.means s₀.heap) args s₁ (.error e) s') s₁) : r.claim.HoldsOpenBy (fun vs => ⟨tree vs, .builtin "claim.caller" {}, default, []⟩) defs kps writes := by
  obtain ⟨ok, k5⟩ := Bool.and_eq_true_iff.mp ok
  obtain ⟨hch, o1⟩ := Bool.and_eq_true_iff.mp ok
  obtain ⟨k5, k6⟩ := Bool.and_eq_true_iff.mp k5
  obtain ⟨hsame, hu, ha, hap, hm⟩ := frees_parts k5
  refine ⟨⟨hb, o1, by show r.makers.map _ = []; rw [hm]; rfl⟩, hw.witness, fun w => ⟨(left.behind hX hch w).1, fun s' hs' => ?_⟩⟩
  obtain ⟨s₀, hf, hg0, s, hT, hz, hgens, hg, G00, y⟩ := (left.behind (XP := fun mg h => XP mg h ∧ RecFacts r.records h) (fun s hs => ⟨hX s hs, hRf s hs⟩) hch w).2 s' hs'
  have G0 : Ground q loose [] XP w s (s.heap.nsMap mainGlobals) (s.heap.nsMap builtinsNs) s.heap := ⟨G00.T, G00.B, G00.D, G00.TE, G00.TD, G00.W, G00.X.1, G00.cls, G00.has, G00.apart, G00.once, G00.K⟩
  have RF := G00.X.2
  have hT' := hT
  refine ⟨s₀, hf, hg0, s, hT, pin w s hg G0, RF.1, RF.2.1, ?_⟩
  have hgens : s.gens = #[] := Array.eq_empty_of_size_eq_zero (beq_iff_eq.mp hgens)
  have G : Ground q loose r.records XP w s _ _ s.heap := RF.ground G0
  refine callFrom_of_specC (c := r.claim) hz hgens fun args hpre hlay ord hord => ?_
  obtain ⟨⟨vs, s₁⟩, hlaid⟩ := Option.isSome_iff_exists.mp (layAllW_isSome (P := w.params) (ord := ord) G.has args r.args s (pre_splitW hpre).1)
  have keeps := layAllW_keeps _ _ _ hlaid
  have hal := layAllW_rest _ _ _ hlaid
  obtain ⟨as, hrd, hin, hold⟩ := reads_layAllW hord _ _ _ hlaid hlay s₁.heap (fun _ _ e => e)
  have L : Laid r.records w s s₁ args vs as := ⟨⟨ord, hord, hlaid⟩, hrd, hin, hold, keeps, hal.1.trans hgens, hal.2.2.1⟩
  have G₁ := G.keeps hXk keeps
  obtain ⟨f, hf, h⟩ := call w s s₁ _ _ G₁ (hYk _ _ _ (hY w s y) keeps) args vs as hpre hlay L G.low
  have hi := ident_freeW hu ha hap
  have hwi : r.claim.within = [] := List.isEmpty_iff.mp k6
  exact ⟨vs, s₁, hlaid, ht vs w s₁ _ f _ _ G₁.T.g hf (wpC_mono h (fun v s' g => ⟨_, rfl, have z := g.laid (c := r.claim) hsame hwi hi L; ⟨z.1, z.2.1, z.2.2, fun q => ⟨namesKept_of hT' hg kps keeps g.2.1.old, noTable hwr q⟩⟩⟩) fun e s' g => have z := g.laid (c := r.claim) hsame hwi hi L; ⟨z.1, z.2.1, z.2.2, fun q => ⟨namesKept_of hT' hg kps keeps g.2.1.old, noTable hwr q⟩⟩)⟩

abbrev WalkC (q : Program) (loose : List Str) (XP : (Str → Option Value) → Heap → Prop) (YP : World → Heap → Prop) (r : RowW) (d : DefRec) (kwd : List (Str × Expr)) (run : Value → List Value → Sem Value) : Prop :=
  ∀ (w : World) (s₀ s₁ : Shared) (mg mb : Str → Option Value), Ground q loose r.records XP w s₀ mg mb s₁.heap → YP w s₁.heap → ∀ (a : Addr) (o : Obj) (pm cd doc dV kV : Value), s₁.heap.get? a = some o →
    o.data = .func { docDef d.name d.params d.body d.scope pm cd doc with defaults := dV, kwdefaults := kV } → s₁.heap.CodeRec cd d.name → Dflts mg s₁.heap d.params kwd dV kV → mg d.name = some (.ref a) → s₁.gens = #[] →
    ∀ (args : List WData) (vals : List Value) (as : List Addr), r.claim.pre args = true → WData.layableAll args = true → ReadsAllW r.records (classAt s₀.heap) s₁.heap vals args as → WellAll w.params s₁.heap vals args → (∀ a ∈ as, (a == sysModules) = false) →
      wpC (model r.prog w) callerA (run (.ref a) vals) (fun v s' => GoodWG r.claim (classAt s₀.heap) (ExcName.means s₀.heap) args s₁ (.ok (.ret v)) s')
        (fun e s' => GoodWG r.claim (classAt s₀.heap) (ExcName.means s₀.heap) args s₁ (.error e) s') s₁

/-- the run of the top, all at once -/
abbrev LeftC (p q : Program) (loose : List Str) (Xt : Shared → Bool) {α : Type} (Yf : Shared → α) (Ya : World → α) (N : Nat) : Prop := LeftO p q loose Xt Yf Ya N

theorem PySem.W.holds_open {r : OpenRow} {q : Program} {loose : List Str} {Xt : Shared → Bool} {XP : (Str → Option Value) → Heap → Prop} {α : Type} {Yf : Shared → α} {Ya : World → α} {YP : World → Heap → Prop} {d : DefRec} {kwd : List (Str × Expr)} {N : Nat}
    (left : LeftC r.prog q loose Xt Yf Ya N) (hY : ∀ w s, Yf s = Ya w → YP w s.heap) (hYk : ∀ w h h', YP w h → (∀ b o, h.get? b = some o → h'.get? b = some o) → YP w h')
    (hX : ∀ s, Xt s = true → XP (s.heap.nsMap mainGlobals) s.heap) (hXk : ∀ mg h h', XP mg h → (∀ b o, h.get? b = some o → h'.get? b = some o) → XP mg h')
    (hdef : defOf q r.name = some (d, kwd)) (hp : r.prog.theDef r.name = some (d.params, d.body, d.scope)) (hk : kwWritten? d.params.kwonlyargs d.params.kw_defaults = some kwd) (hRf : ∀ s, Xt s = true → RecFacts r.records s.heap) (hwr : (!r.writes || r.records.isEmpty) = true)
    (k1 : r.wellSaid = true) (ok : (chainsOk q && opensWell r.prog && (frees r.toRowW && r.within.isEmpty)) = true) (hb : r.prog.bare) (hw : r.toRowW.promised)
    (call : WalkC q loose XP YP r.toRowW d kwd fun f vs => PySem.call f vs) : r.Holds := by
  refine ⟨k1, hw, open_anyC (r := r.toRowW) (run := fun f vs => PySem.call f vs) (tree := fun vs => do match ← nsGet mainNs r.name with
      | some f => do ret (← PySem.call f vs)
      | none => unsupported "claim.caller:no-such-global") left hY hYk hX hXk hRf hwr ok hb hw
    (fun vs w s mg f Q E hg hf h => wpC_bind (wpC_of (wpAny_nsGet hg (by rw [hf]; exact wpC_bind (wpC_mono h (fun _ _ x => wpC_pure x) fun _ _ x => x)))))
    (fun w s hg G n hn => ?_) fun w s₀ s₁ mg mb G Y args vs as hpre hlay L low => ?_⟩
  · obtain rfl : n = r.name := by split at hn <;> simp_all
    exact pinned_of_view hg G hdef hp hk
  · obtain ⟨a, o, pm, cd, doc, dV, kV, h1, h2, h3, h4, h5⟩ := G.fn hdef
    exact ⟨.ref a, h1, call w s₀ s₁ mg mb G Y a o pm cd doc dV kV h2 h3 h4 h5 (defOf_name hdef ▸ h1) L.gens args vs as hpre hlay L.reads L.well (L.low low)⟩

end Mine
end
section
/-! text T1 -/
open PySem PySem.W PyProof.Rows
set_option Elab.async false
set_option maxRecDepth 100000
set_option maxHeartbeats 8000000
namespace Mine
local macro_rules | `(tactic| o_law) => `(tactic| refine holds_law (by decide +kernel) fun said => ?_)
open_top hd for PySem.Challenge.rw_np0176_01
end Mine
end
section
/-! text X1 -/
open PySem PySem.W
set_option Elab.async false
set_option autoImplicit false
set_option linter.unusedVariables false
set_option maxRecDepth 100000
namespace Mine
open Sem (wp)

section
variable {prog : Program} {w : World} {A : Around} {E : Value → Shared → Prop} {R : Result → Shared → Prop} {h : Heap} {g : Array GenState} {d : Drawn} {t : Nat} {os : OsState}
variable {nm q : Str} {C N : Addr} {bs bm bmB : List Value} {hdct : Bool} {sn : List Str} {sub : List Value} {ab : Bool} {col : Option Bool} {dd : Option Addr} {k0 k1 k2 k3 k5 : Option Value} {B newId initId : String}
theorem check_new_H (F : ExcBaseFacts B newId initId bmB) (hcont : (Value.ref C :: bm).contains (.type B) = true) {M : Model} {rest : List Value} {Q : Unit → Shared → Prop} (hC : h.get? C = some (excClassObj nm q C N bs bm hdct sn sub ab col dd k0 k1 k2 k3 k5 newId))
    (hq : Q () ⟨h, g, d, t, os⟩) : wpAny M A (checkBuiltinCall newId ⟨.ref C :: rest, []⟩) Q E ⟨h, g, d, t, os⟩ := by
  have hstar := F.noStar
  simp only [checkBuiltinCall, F.newKind, F.newSplit, F.newRow]
  repeat (first | refine wpAny_loadPart_at hC ?_ | (refine wpAny_isSubtype_exc hC ?_; rw [hcont]) | refine wpAny_staticBase_exc hC ?_ | refine wpAny_madeBy_exc hC ?_ | simp only [bne_self_eq_false, Bool.false_eq_true, if_false] | wp_step)
  repeat (first | refine wpAny_loadPart_at hC ?_ | (refine wpAny_isSubtype_exc hC ?_; rw [hcont]) | refine wpAny_staticBase_exc hC ?_ | refine wpAny_madeBy_exc hC ?_ | simp only [bne_self_eq_false, Bool.false_eq_true, if_false] | wp_step)
  exact hq
theorem exc_new_H (F : ExcBaseFacts B newId initId bmB) (hcB : (Value.ref C :: bm).contains (.type B) = true) (hcA : (Value.ref C :: bm).contains (.type "AttributeError") = false) (hcN : (Value.ref C :: bm).contains (.type "NameError") = false)
    {rest : List Value} (hC : h.get? C = some (excClassObj nm q C N bs bm hdct sn sub ab col dd k0 k1 k2 k3 k5 newId))
    (hq : R (.ok (.ret (.ref (h.objs.size + 1)))) ⟨(h.push { cls := .type "tuple", data := .seq rest.toArray }).push
      { cls := .ref C, data := .fields #[.ref h.objs.size, .none, .none, .none, .bool false, .none] }, g, d, t, os⟩) (hrest : rest.length ≤ sizeLine := by size_fits) :
    codeAny (model prog w) A (.builtin newId ⟨.ref C :: rest, []⟩) R ⟨h, g, d, t, os⟩ := by
  have hends := F.ends
  refine codeAny_builtinAt F.entry ?_
  unfold Builtin.«BaseException.__new__»
  refine wpAt_bind ?_
  show wpAt _ _ _ (stack >>= _) _ _ _
  refine wpAt_bind (wpAt_stack fun p below => wpAt_of_wpAny ?_)
  wp_walk
  refine wpAt_of_wpAny ?_
  rw [F.owner]
  repeat (first | with_reducible refine wpAny_madeHere_exc F.canon hC ?_ | with_reducible refine wpAny_loadPart_at hC ?_ | (with_reducible refine wpAny_isSubtype_exc hC ?_; first | rw [hcB] | rw [hcA] | rw [hcN]) | wp_step)
  show R _ _
  rw [Heap.size_push]
  exact hq
theorem type_call_H (F : ExcBaseFacts B newId initId bmB) (hcB : (Value.ref C :: bm).contains (.type B) = true) (hcA : (Value.ref C :: bm).contains (.type "AttributeError") = false) (hcN : (Value.ref C :: bm).contains (.type "NameError") = false)
    {rest : List Value} {fI : Addr} {oI : Obj} {Q : Fin → Shared → Prop}
    (hC : h.get? C = some (excClassObj nm q C N bs bm hdct sn sub ab col dd k0 k1 k2 k3 k5 newId)) (hlook : Looks (model prog w) h (typeLookup (.ref C) "__init__") (some (.ref fI)))
    (hfI : h.get? fI = some oI) (hfc : oI.cls = .type "function")
    (hq : ∀ h' e, Heap.MadeExcOf h h' e (.ref C) rest →
      wpAny (model prog w) A (call (.ref fI) (.ref e :: rest)) (fun r s' => r = .none ∧ Q (.done (.ret (.ref e))) s') E ⟨h', g, d, t, os⟩) (hrest : rest.length ≤ sizeLine := by size_fits) :
    wpAny (model prog w) A (Builtin.«type.__call__» ⟨.ref C :: rest, []⟩) Q E ⟨h, g, d, t, os⟩ := by
  repeat (first | with_reducible refine wpAny_loadPart_at hC ?_ | with_reducible refine wpAny_madeBy_exc hC ?_ | wp_step)
  refine codeAny_call_builtin_code (Code.quiet_builtin _ F.quiet) (check_new_H F hcB hC ?_)
  refine exc_new_H F hcB hcA hcN hC ?_ hrest
  show wpAny _ _ _ _ _ _
  have hk : ∀ b o, h.get? b = some o → ((h.push { cls := .type "tuple", data := .seq rest.toArray }).push { cls := .ref C, data := .fields #[.ref h.objs.size, .none, .none, .none, .bool false, .none] }).get? b = some o := fun b o e =>
    Heap.get?_push_of_some _ (Heap.get?_push_of_some _ e)
  have hC₁ := hk _ _ hC
  have hfI₁ := hk _ _ hfI
  have hget : ((h.push { cls := .type "tuple", data := .seq rest.toArray }).push
      { cls := .ref C, data := .fields #[.ref h.objs.size, .none, .none, .none, .bool false, .none] }).get? (h.objs.size + 1) = some
      { cls := .ref C, data := .fields #[.ref h.objs.size, .none, .none, .none, .bool false, .none] } := by heap_get
  have hcC : (Value.ref C :: bm).contains (.ref C) = true := by simp
  unfold isInstance
  repeat (first | with_reducible refine wpAny_loadPart_at hget ?_ | (with_reducible refine wpAny_isSubtype_exc hC₁ ?_; rw [hcC]) | wp_step)
  show wpAny _ _ (typeLookup (.ref C) _) _ _ _
  refine hlook _ _ _ _ hk ?_
  refine wpAny_holding (wpAny_bind ?_)
  unfold bindSpecial
  refine wpAny_bind (wpAny_typeOf (T := "function") ⟨_, hfI₁, hfc⟩ ?_)
  rw [if_pos (by decide)]
  refine wpAny_pure (wpAny_bind (wpAny_mono (hq _ (h.objs.size + 1) ⟨hk, Heap.get?_none_of_le (Nat.le_succ _), h.objs.size, hget, Heap.get?_none_of_le (Nat.le_refl _), ?_⟩) (fun r s' hr => ?_) fun _ _ x => x))
  · exact Heap.get?_push_of_some _ (Heap.get?_push_at rfl rfl)
  · obtain ⟨rfl, hQ⟩ := hr
    wp_walk
    exact hQ
theorem call_H (F : ExcBaseFacts B newId initId bmB) (hcB : (Value.ref C :: bm).contains (.type B) = true) (hcA : (Value.ref C :: bm).contains (.type "AttributeError") = false) (hcN : (Value.ref C :: bm).contains (.type "NameError") = false)
    {rest : List Value} {fI : Addr} {oI : Obj} {Q : Value → Shared → Prop}
    (hC : h.get? C = some (excClassObj nm q C N bs bm hdct sn sub ab col dd k0 k1 k2 k3 k5 newId)) (hlook : Looks (model prog w) h (typeLookup (.ref C) "__init__") (some (.ref fI)))
    (hfI : h.get? fI = some oI) (hfc : oI.cls = .type "function")
    (hq : ∀ h' e, Heap.MadeExcOf h h' e (.ref C) rest →
      wpAny (model prog w) (A.under (.builtin "type.__call__" ⟨.ref C :: rest, []⟩)) (call (.ref fI) (.ref e :: rest)) (fun r s' => r = .none ∧ Q (.ref e) s') E ⟨h', g, d, t, os⟩) (hrest : rest.length ≤ sizeLine := by size_fits) :
    wpAny (model prog w) A (call (.ref C) rest) Q E ⟨h, g, d, t, os⟩ := by
  have f1 := tc_lookup
  have f2 := tc_bind (.ref C)
  have hT : (⟨h, g, d, t, os⟩ : Shared).TypeIs (.ref C) "type" := ⟨_, hC, rfl⟩
  refine wpAny_call (codeAny_of_tree ?_)
  show wpAny _ _ (callAny (.ref C) _) _ _ _
  repeat (any_goals (first | assumption | with_reducible refine wpAny_loadPart_at hC ?_ | wp_step))
  refine ⟨rfl, ?_⟩
  refine codeAny_call_builtin_at (Code.quiet_builtin _ (by decide +kernel)) entry_typeCall (wpAny_check_type_call_sub hC (type_call_H (hrest := hrest) F hcB hcA hcN hC hlook hfI hfc fun h' e hm => ?_))
  exact hq h' e hm
end
end Mine
end
section
/-! text X2 -/
open PySem PySem.W PyProof.Rows
set_option Elab.async false
set_option autoImplicit false
set_option linter.unusedVariables false
set_option maxRecDepth 100000
namespace Mine
open Sem (wp)
open Builtin Builtin.ObjectAttr

section
variable {prog : Program} {w : World} {A : Around} {E : Value → Shared → Prop} {R : Result → Shared → Prop} {h : Heap} {g : Array GenState} {d : Drawn} {t : Nat} {os : OsState}
variable {nm q : Str} {C N : Addr} {bs bm bmB : List Value} {hdct : Bool} {sn : List Str} {sub : List Value} {ab : Bool} {col : Option Bool} {dd : Option Addr} {k0 k1 k2 k3 k5 : Option Value} {B newId initId nid : String}
theorem check_init_H (F : ExcBaseFacts B newId initId bmB) (hcB : (Value.ref C :: bm).contains (.type B) = true) {M : Model} {e : Addr} {oe : Obj} {rest : List Value} {Q : Unit → Shared → Prop}
    (hC : h.get? C = some (excClassObj nm q C N bs bm hdct sn sub ab col dd k0 k1 k2 k3 k5 nid)) (he : h.get? e = some oe) (hcls : oe.cls = .ref C) (hq : Q () ⟨h, g, d, t, os⟩) :
    wpAny M A (checkBuiltinCall initId ⟨.ref e :: rest, []⟩) Q E ⟨h, g, d, t, os⟩ := by
  have hshort := F.noStar
  simp only [checkBuiltinCall, F.initKind, F.initSplit, F.initRow]
  repeat (first | (with_reducible refine wpAny_loadPart_at he ?_; rw [hcls]) | with_reducible refine wpAny_loadPart_at hC ?_ | (with_reducible refine wpAny_isSubtype_exc hC ?_; rw [hcB]) | wp_step)
  refine wpAny_onRaise ?_
  rw [show ∀ (a b : String) (n : Nat), Bind.check ⟨.positional, "*", B, .self, [⟨"args", .varPos, false⟩]⟩ a b n (List.map (fun x => x.fst) ({ pos := Value.ref e :: rest } : Args).kw) = pure () from
    fun a b n => check_star_args _ _ _ _ _ _]
  exact wpAny_pure hq
/-- the built-in initialiser of an exception -/
theorem exc_init_H (F : ExcBaseFacts B newId initId bmB) (hcB : (Value.ref C :: bm).contains (.type B) = true) {e a : Addr} {rest : List Value} {Q : Value → Shared → Prop}
    (hC : h.get? C = some (excClassObj nm q C N bs bm hdct sn sub ab col dd k0 k1 k2 k3 k5 nid)) (he : h.get? e = some { cls := .ref C, data := .fields #[.ref a, .none, .none, .none, .bool false, .none] })
    (hq : ∀ h' a', h'.get? e = some { cls := .ref C, data := .fields #[.ref a', .none, .none, .none, .bool false, .none] } → (∀ b o, b ≠ e → h.get? b = some o → h'.get? b = some o) → Q .none ⟨h', g, d, t, os⟩) (hrest : rest.length ≤ sizeLine := by size_fits) :
    wpAny (model prog w) A (call (.builtin initId) (.ref e :: rest)) Q E ⟨h, g, d, t, os⟩ := by
  have he₁ := Heap.get?_push_of_some { cls := .type "tuple", data := .seq rest.toArray } he
  refine wpAny_call (codeAny_call_builtin F.init.plain F.initEntry (check_init_H F hcB hC he rfl ?_))
  unfold Builtin.«BaseException.__init__»
  wp_walk
  refine hq _ h.objs.size (Heap.get?_update_self _ he₁ rfl) fun b o hb ho => ?_
  rw [Heap.get?_update_other _ _ (Ne.symm hb)]
  exact Heap.get?_push_of_some _ ho
/-- the built-in initialiser, by name -/
theorem get_init {M : Model} {A : Around} {s : Shared} {pl : Sem Bool} {Q : Value × List Value → Shared → Prop} (h : ∀ t, Q (.builtin "Exception.__init__", []) { s with toks := t }) :
    wpAny (model prog w) A (getMethod (.type "Exception") "__init__" pl) Q E s := by
  have L0 : Looks (model prog w) s.heap (typeOf (.type "Exception")) (.type "type") := Looks.of_pure (by kernel_rfl)
  have X : Frag.In ([] : Frag) s.heap := fun _ _ e => by cases e
  have hga : findIn ([] : Frag) (.type "type") "__getattribute__" = some (some (.builtin "type.__getattribute__")) := by decide +kernel
  unfold getMethod specialOf
  refine wpAny_bind (wpAny_bind (L0.here ((looks_findIn X hga).here ?_)))
  dsimp only
  rw [if_pos canon_tga]
  refine wpAny_bind (cls_open (mc := .type "type") (hook := none) (r := .val (.builtin "Exception.__init__")) X (Looks.of_pure (by kernel_rfl)) L0 hga (Looks.of_pure (by kernel_rfl)) (by decide +kernel) (by kernel_rfl) ?_)
  refine wpAny_pure ?_
  exact handed_on (by decide +kernel) (wpAny_pure (h _))
theorem store_H {B sa owner : String} {C2 x : Addr} {ox : Obj} {name : Str} {v : Value} {Q : Unit → Shared → Prop} (SF : StoreFacts B bmB sa owner) (hb : bm = .ref C2 :: bmB)
    (hC : h.get? C = some (excClassObj nm q C N bs bm true sn sub ab col dd k0 k1 k2 k3 k5 nid)) (hsa : Looks (model prog w) h (typeLookup (.ref C) "__setattr__") (some (.builtin sa))) (hna : Looks (model prog w) h (typeLookup (.ref C) name) none)
    (hx : h.get? x = some ox) (hc : ox.cls = .ref C) (hd : ox.dict = none) (hnc : ∀ c, ox.data ≠ .cls c)
    (hq : ∀ h' tk' dx, h'.get? x = some { ox with dict := some dx } → (∀ b o, b ≠ x → h.get? b = some o → h'.get? b = some o) → Q () ⟨h', g, d, tk', os⟩) :
    wpAny (model prog w) A (setAttr (.ref x) name v) Q E ⟨h, g, d, t, os⟩ := by
  have f3 := SF.slot.bind (.ref x)
  have hpass := SF.passes (.ref x)
  have hcB : (Value.ref C :: bm).contains (.type owner) = true := by rw [List.contains_cons, hb, List.contains_cons, SF.hasOwner, Bool.or_true, Bool.or_true]
  have Lt : Looks (model prog w) h (typeOf (.ref x)) (.ref C) := hc ▸ (Looks.ld hx).andThen .now
  have chk : ∀ {nameV : Value} {t : Nat} {Q : Unit → Shared → Prop} {E : Value → Shared → Prop} {A : Around}, Q () ⟨h, g, d, t, os⟩ → wpAny (model prog w) A (checkBuiltinCall sa ⟨[.ref x, nameV, v], []⟩) Q E ⟨h, g, d, t, os⟩ := by
    intro nameV t Q E A hq
    have ha := SF.args (.ref x) nameV v
    simp only [checkBuiltinCall, SF.kind, SF.split]
    refine wpAny_bind ?_
    unfold isInstance
    repeat (first | (with_reducible refine wpAny_loadPart_at hx ?_; rw [hc]) | (with_reducible refine wpAny_isSubtype_exc hC ?_; rw [hcB]) | wp_step)
    cases hsig : Manifest.signature? sa with
    | none => exact wpAny_pure hq
    | some sig =>
      simp only [argsOk, hsig] at ha
      have h2 : Bind.checkArgs sa sig ⟨[.ref x, nameV, v], []⟩ = pure () := ha
      show wpAny _ A (Bind.checkArgs sa sig ⟨[.ref x, nameV, v], []⟩) Q E _
      rw [h2]; exact wpAny_pure hq
  have body : ∀ {tk : Tok} {t : Nat} {A : Around} {R : Result → Shared → Prop}, (∀ h' tk' dx, h'.get? x = some { ox with dict := some dx } → (∀ b o, b ≠ x → h.get? b = some o → h'.get? b = some o) → R (.ok (.ret .none)) ⟨h', g, d, tk', os⟩) →
      codeAny (model prog w) A (.call (.builtin sa) ⟨[.ref x, .str name tk, v], []⟩) R ⟨h, g, d, t, os⟩ := by
    intro tk t A R hq
    refine codeAny_call_builtin SF.slot.plain SF.entry (chk ?_)
    unfold Builtin.«object.__setattr__»
    repeat (first | rw [refuse_eq] | (rw [hb, refuseLoop_ref, refuseLoop_ref, hpass]) | (with_reducible refine wpAny_loadPart_at hx ?_; rw [hc]) | with_reducible refine wpAny_mroOf_exc hC ?_ | with_reducible refine Looks.at hna ?_ | wp_step)
    rw [hd, if_neg (by simp [typeHasDict])]
    split
    · rename_i hcd
      cases hcd
    split
    · rename_i c hcd
      exact absurd hcd (hnc c)
    · have hx₁ : (h.push { cls := .type "dict", data := .dict #[] }).get? x = some ox := Heap.get?_push_of_some _ hx
      have hxs : x ≠ h.objs.size := Nat.ne_of_lt (Heap.lt_size hx)
      refine wpAny_bind (wpAny_alloc' ?_)
      refine wpAny_bind (wpAny_update' hx₁ ?_)
      refine wpAny_pure ?_
      have hgd : ((h.push { cls := .type "dict", data := .dict #[] }).update x fun o => { cls := o.cls, dict := some h.objs.size, data := o.data, slots := o.slots }).get? h.objs.size
          = some { cls := .type "dict", data := .dict #[] } :=
        (Heap.get?_update_ne _ _ _ _ hxs.symm).trans (Heap.get?_push_at rfl rfl)
      have hnd : ((h.push { cls := .type "dict", data := .dict #[] }).update x fun o => { cls := o.cls, dict := some h.objs.size, data := o.data, slots := o.slots }).Ns h.objs.size (fun _ => none) :=
        ⟨_, #[], _, hgd, rfl, fun e he => absurd he (by simp), fun _ => rfl⟩
      show wpAny _ _ (storeInDict h.objs.size (.str name tk) name v) _ _ _
      unfold storeInDict newKeyGuard
      refine wpAny_bind (wpAny_pure (wpAny_bind (wpAny_nsSet1 (Heap.Ns1.of_empty hnd) fun h' hn' hs => ?_)))
      obtain ⟨oD, esD, epD, hoD, hdD, hcD⟩ := hn'.count (Within.cons name v Within.nil)
      refine wpAny_bind (wpAny_lookBehind hoD (by rw [hdD]; exact pastItsLine_dict (Nat.le_trans hcD (by rw [List.length_cons, List.length_nil, sizeLine_eq]; lia))) ?_)
      wp_walk
      refine hq h' _ h.objs.size ((hs.2 x hxs).trans (Heap.get?_update_self _ hx₁ ?_)) fun b o hbx ho => ?_
      · have hfr := (Heap.get?_some_iff.mp hx).2
        obtain ⟨oc, od, odt, osl⟩ := ox
        cases odt <;> first | rfl | exact hfr
      · exact (hs.2 b (Nat.ne_of_lt (Heap.lt_size ho))).trans ((Heap.get?_update_ne _ _ _ _ hbx).trans (Heap.get?_push_of_some _ ho))
  unfold setAttr callSpecial? specialOf
  repeat (any_goals (first | assumption | (with_reducible refine wpAny_loadPart_at hx ?_; rw [hc]) | with_reducible refine Looks.at hsa ?_ | wp_step))
  refine body fun h' tk' dx q1 q2 => ?_
  repeat (any_goals (first | assumption | wp_step))
  exact hq h' tk' dx q1 q2
end
end Mine
end
section
/-! text X3 -/
open PySem PySem.W PyProof.Rows
set_option Elab.async false
set_option autoImplicit false
set_option linter.unusedVariables false
set_option maxRecDepth 100000
set_option genSizeOf false
set_option genInjectivity false
namespace Mine
open Sem (wp)

/-- what is known of the exception's class and its initialiser -/
structure ExK (K : Frag) (fd : FuncData) : Prop where
  cls : ∃ nm q N bs sn sub ab col dd k0 k1 k2 k3 k5 nid, K.lookup 44 = some (excClassObj nm q 44 N bs [.ref 31, .type "Exception", .type "BaseException", .type "object"] true sn sub ab col dd k0 k1 k2 k3 k5 nid) ∧ nid = "Exception.__new__"
  ini : findIn K (.ref 44) "__init__" = some (some (.ref 28))
  sa : findIn K (.ref 44) "__setattr__" = some (some (.builtin "object.__setattr__"))
  why : findIn K (.ref 44) "why" = some none
  look : ∃ o, K.lookup 28 = some o ∧ o.data = .func fd ∧ o.cls = .type "function"
  code : ∃ c oc vs t, fd.code = .ref c ∧ K.lookup c = some oc ∧ oc.data = .fields vs ∧ vs[1]? = some (.str fd.qualname t)
  body : ∃ p1 p2 p3 p4 p5 p6 p7 p8 p9 pa, fd.body = .stmts [.Expr (.Call (.Attribute (.Name "Exception" p1) "__init__" p2) [.Name "self" p3, .Name "why" p4] [] p5) p6, .Assign [.Attribute (.Name "self" p7) "why" p8] (.Name "why" p9) pa] ∧ (p2.endLine == p5.line) = true
  bind : ∀ x y : Value, bindArgs fd ⟨[x, y], []⟩ = pure [(("self" : Str), x), (("why" : Str), y)]
  nocell : ∀ x ∈ fd.scope.names, x.2 ≠ .cell
  co : fd.scope.isCoroutine = false
  gen : fd.scope.isGenerator = false
  kind : fd.scope.kind = .function
  glob : fd.globals = mainGlobals
  bi : fd.builtins = builtinsNs
  self : fd.scope.names.lookup ("self" : Str) = some .local
  why' : fd.scope.names.lookup ("why" : Str) = some .local
  exn : fd.scope.names.lookup ("Exception" : Str) = some .globalImplicit
  inter : ∀ L, interactive (callEnv fd L 28) = false
  cor : nsIn K mainGlobals "Corrupt" = some (some (.ref 44))
  noExc : nsIn K mainGlobals "Exception" = some none

theorem any_evalArgs {M : Model} {A : Around} {E : Value → Shared → Prop} {s : Shared} {f : Value} {args : List (Bool × Sem Value)} {Q : Args → Shared → Prop} (hp : args.any (·.1) = false)
    (h : wpAny M A (spliced args) (fun vs s' => Q ⟨vs, []⟩ s') E s) : wpAny M A (evalArgs f true args []) Q E s := by
  have key : evalArgs f true args [] = (do let pos ← spliced args; PySem.holding (pos ++ []) (do let kw ← (do let ks ← evalAll []; pure (([] : List Str).zip ks)); let p ← (pure pos : Sem (List Value)); pure (⟨p, kw⟩ : Args))) := by
    match args, hp with
    | [], _ => rfl
    | [(false, x)], _ => rfl
    | [(true, x)], hp => cases hp
    | (b, x) :: (c, y) :: r, _ => cases b <;> rfl
  rw [key]
  refine wpAny_bind (wpAny_mono h (fun vs s' h' => wpAny_holding ?_) fun _ _ e => e)
  exact wpAny_pure h'
theorem any_callWith_bi {M : Model} {A : Around} {E : Value → Shared → Prop} {s : Shared} {pos : Pos} {id : String} {first : List Value} {args : List (Bool × Sem Value)} {Q : Value → Shared → Prop} (hp : args.any (·.1) = false)
    (h : wpAny M A (spliced args) (fun vs s' => wpAny M A (call (.builtin id) (first ++ vs)) Q E s') E s) : wpAny M A (callWith pos (.builtin id) first args []) Q E s := by
  unfold callWith
  refine wpAny_bind (wpAny_holding (any_evalArgs hp (wpAny_mono h (fun vs s' h' => wpAny_bind (wpAny_standAt ?_)) fun _ _ e => e)))
  simp only [hp, List.any_nil, Bool.or_false]
  exact wpAny_bind (wpAny_pure (wpAny_bind (wpAny_mono h' (fun r s₂ hr => wpAny_bind (wpAny_holding (wpAny_point (wpAny_pure hr)))) fun _ _ x => x)))
section
variable {prog : Program} {w : World} {A : Around} {E : Value → Shared → Prop} {K : Frag} {fd : FuncData} {mg mb : Str → Option Value}
theorem init_body (k : ExK K fd) {L e a : Addr} {v : Value} {b1 b2 : Stmt} {h : Heap} {g : Array GenState} {d : Drawn} {t : Nat} {os : OsState} {Q : Flow → Shared → Prop} (hb : fd.body = .stmts [b1, b2])
    (X : K.In h) (hg : h.Ns mainGlobals mg) (hbn : h.Ns builtinsNs mb) (hmb : mb "Exception" = bootBuiltins "Exception")
    (hL : h.Ns L (fun x => [(("why" : Str), v), (("self" : Str), .ref e)].lookup x)) (he : h.get? e = some { cls := .ref 44, data := .fields #[.ref a, .none, .none, .none, .bool false, .none] }) (heL : e ≠ L) (heg : e ≠ mainGlobals)
    (hne : ∀ o, K.lookup e ≠ some o)
    (hq : ∀ h' t' a' dx, h'.get? e = some { cls := .ref 44, dict := some dx, data := .fields #[.ref a', .none, .none, .none, .bool false, .none] } → (∀ b o, b ≠ e → h.get? b = some o → h'.get? b = some o) → Q .next ⟨h', g, d, t', os⟩) :
    wpAny (model prog w) A (execs [b1, b2] (callEnv fd L 28)) Q E ⟨h, g, d, t, os⟩ := by
  obtain ⟨p1, p2, p3, p4, p5, p6, p7, p8, p9, pa, hb', hline⟩ := k.body
  rw [hb] at hb'
  injection hb' with hb'
  injection hb' with e1 e2
  injection e2 with e2 _
  subst e1 e2
  obtain ⟨nm, q, N, bs, sn, sub, ab, col, dd, k0, k1, k2, k3, k5, nid, hC, rfl⟩ := k.cls
  have F := PySem.F.excBase_Exception
  have hk : (callEnv fd L 28).scope.kind = .function := k.kind
  have self : ∀ p, ∀ {s : Shared} {Q : Value → Shared → Prop}, s.heap.Ns L (fun x => [(("why" : Str), v), (("self" : Str), .ref e)].lookup x) → Q (.ref e) s → wpAny (model prog w) A (eval (.Name "self" p) (callEnv fd L 28)) Q E s := fun p s Q hn hq =>
    wpAny_Name (wpAny_loadName_local hk k.self hn rfl hq) rfl
  have why : ∀ p, ∀ {s : Shared} {Q : Value → Shared → Prop}, s.heap.Ns L (fun x => [(("why" : Str), v), (("self" : Str), .ref e)].lookup x) → Q v s → wpAny (model prog w) A (eval (.Name "why" p) (callEnv fd L 28)) Q E s := fun p s Q hn hq =>
    wpAny_Name (wpAny_loadName_local hk k.why' hn rfl hq) rfl
  refine wpAny_execs_cons ?_
  refine wpAny_Expr_any ?_ (k.inter L) rfl
  show wpAny _ _ (do
    let ov ← attributeBase (.Name "Exception" p1) "__init__" (callEnv fd L 28) (eval (.Name "Exception" p1) (callEnv fd L 28))
    standAt p2.atName
    methodCall (.Name "Exception" p1) "__init__" p2 p5 (callEnv fd L 28) ov 2 (backTo p5 (starEach [.Name "self" p3, .Name "why" p4] (callEnv fd L 28))) (backToKw p5 (keywordEach [] (callEnv fd L 28)))) _ _ _
  rw [show attributeBase (.Name "Exception" p1) "__init__" (callEnv fd L 28) (eval (.Name "Exception" p1) (callEnv fd L 28)) = eval (.Name "Exception" p1) (callEnv fd L 28) from rfl]
  refine wpAny_bind (Calls.Name_function_global hk k.exn (Calls.loadGlobal_builtin (show h.Ns (callEnv fd L 28).globals mg from by show h.Ns fd.globals mg; rw [k.glob]; exact hg) (mg_none_of X hg k.noExc) (show h.Ns (callEnv fd L 28).builtins mb from by show h.Ns fd.builtins mb; rw [k.bi]; exact hbn)
    (hmb.trans (show bootBuiltins ("Exception" : Str) = some (.type "Exception") by kernel_rfl)) ?_) rfl)
  refine wpAny_bind (wpAny_standAt ?_)
  unfold methodCall
  rw [show methodCallForm 2 (backTo p5 (starEach [.Name "self" p3, .Name "why" p4] (callEnv fd L 28))) (backToKw p5 (keywordEach [] (callEnv fd L 28))) = true from rfl]
  refine wpAny_bind (wpAny_holding (get_init (M := model prog w) fun t => ?_))
  rw [show methodCallPos true (.Name "Exception" p1) (callEnv fd L 28) p2 p5 = pure p5 by unfold methodCallPos; simp [hline]]
  refine wpAny_bind (wpAny_pure ?_)
  refine any_callWith_bi rfl (Calls.spliced_cons (self p3 hL (Calls.spliced_cons (why p4 hL (Calls.spliced_nil ?_)))))
  refine exc_init_H F (by decide +kernel) (X _ _ hC) he fun h1 a1 q1 q2 => ?_
  have kp : ∀ b o, b ≠ e → h.get? b = some o → h1.get? b = some o := q2
  have X1 : K.In h1 := fun b o hbo => q2 b o (fun eb => hne o (eb ▸ hbo)) (X b o hbo)
  have hL1 : h1.Ns L (fun x => [(("why" : Str), v), (("self" : Str), .ref e)].lookup x) := by obtain ⟨oL, es, ep, z1, z2⟩ := hL; exact ⟨oL, es, ep, q2 _ _ (Ne.symm heL) z1, z2⟩
  refine wpAny_execs_cons ?_
  refine plainObj_wpAny_Assign_Attribute (why p9 hL1 (self p7 hL1 ?_)) rfl
  refine store_H (bmB := [.type "Exception", .type "BaseException", .type "object"]) PySem.F.store_Exception rfl (X1 _ _ hC) (looks_findIn X1 k.sa) (looks_findIn X1 k.why) q1 rfl rfl (fun c z => by cases z) fun h2 t2 dx z1 z2 => ?_
  exact wpAny_execs_nil (hq _ _ a1 dx z1 fun b o hbe ho => z2 b o hbe (q2 b o hbe ho))
end
end Mine
end
section
/-! text X4 -/
open PySem PySem.W PyProof.Rows
set_option Elab.async false
set_option autoImplicit false
set_option linter.unusedVariables false
set_option maxRecDepth 100000
namespace Mine
open Sem (wp)
section
variable {prog : Program} {w : World} {A : Around} {E : Value → Shared → Prop} {K : Frag} {fd : FuncData} {mg mb : Str → Option Value}
theorem init_call (k : ExK K fd) {e a : Addr} {v : Value} {h : Heap} {g : Array GenState} {d : Drawn} {t : Nat} {os : OsState} {Q : Value → Shared → Prop}
    (hroom : A.depth < recursionLimit) (X : K.In h) (hg : h.Ns mainGlobals mg) (hbn : h.Ns builtinsNs mb) (hmb : mb "Exception" = bootBuiltins "Exception") (hlim : h.NoLimit)
    (he : h.get? e = some { cls := .ref 44, data := .fields #[.ref a, .none, .none, .none, .bool false, .none] }) (heg : e ≠ mainGlobals)
    (hne : ∀ o, K.lookup e ≠ some o)
    (hq : ∀ h' t' a' dx, h'.get? e = some { cls := .ref 44, dict := some dx, data := .fields #[.ref a', .none, .none, .none, .bool false, .none] } → (∀ b o, b ≠ e → h.get? b = some o → h'.get? b = some o) → Q .none ⟨h', g, d, t', os⟩) :
    wpAny (model prog w) A (call (.ref 28) [.ref e, v]) Q E ⟨h, g, d, t, os⟩ := by
  obtain ⟨o28, hl, hd, _⟩ := k.look
  obtain ⟨p1, p2, p3, p4, p5, p6, p7, p8, p9, pa, hb, _⟩ := id k.body
  obtain ⟨c, oc, vs, tq, c1, c2, c3, c4⟩ := k.code
  refine wpAny_call (codeAny_call_plain hroom (X _ _ hl) hd hlim ⟨c, oc, vs, tq, c1, X _ _ c2, c3, c4⟩ hb (k.bind _ _) k.nocell ?_ (fun h₀ hn hk => ?_) k.co k.gen k.kind)
  · intro x hx
    rcases List.mem_cons.mp hx with rfl | hx
    · exact k.self
    · rw [List.mem_singleton.mp hx]; exact k.why'
  · have he0 := hk _ _ he
    refine init_body k hb (X.keeps hk) (hg.keeps hk) (hbn.keeps hk) hmb (L := h.objs.size) (by exact hn) he0 (Nat.ne_of_lt (Heap.lt_size he)) heg hne fun h' t' a' dx q1 q2 => ?_
    exact hq h' t' a' dx q1 fun b o hb ho => q2 b o hb (hk b o ho)

theorem any_callWith_exc {nm q : Str} {C N : Addr} {bs bm : List Value} {hdct : Bool} {sn : List Str} {sub : List Value} {ab : Bool} {col : Option Bool} {dd : Option Addr} {k0 k1 k2 k3 k5 : Option Value} {newId : String}
    {s : Shared} {pos : Pos} {first : List Value} {args : List (Bool × Sem Value)} {Q : Value → Shared → Prop} (hp : args.any (·.1) = false) {M : Model}
    (h : wpAny M A (spliced args) (fun vs s' => s'.heap.get? C = some (excClassObj nm q C N bs bm hdct sn sub ab col dd k0 k1 k2 k3 k5 newId) ∧ wpAny M A (call (.ref C) (first ++ vs)) Q E s') E s) : wpAny M A (callWith pos (.ref C) first args []) Q E s := by
  unfold callWith
  refine wpAny_bind (wpAny_holding (any_evalArgs hp (wpAny_mono h (fun vs s' h' => wpAny_bind (wpAny_standAt ?_)) fun _ _ e => e)))
  simp only [hp, List.any_nil, Bool.or_false]
  obtain ⟨hC, h'⟩ := h'
  obtain ⟨hp', g', d', t', os'⟩ := s'
  exact wpAny_bind (wpAny_keeperOf_exc hC (wpAny_bind (wpAny_mono h' (fun r s₂ hr => wpAny_bind (wpAny_holding (wpAny_point (wpAny_pure hr)))) fun _ _ x => x)))
/-- Corrupt(m) -/
theorem made_exc (k : ExK K fd) {v : Value} {h : Heap} {g : Array GenState} {d : Drawn} {t : Nat} {os : OsState} {Q : Value → Shared → Prop}
    (hroom : A.depth + 1 < recursionLimit) (X : K.In h) (hg : h.Ns mainGlobals mg) (hbn : h.Ns builtinsNs mb) (hmb : mb "Exception" = bootBuiltins "Exception") (hlim : h.NoLimit)
    (hq : ∀ h' t' e a' dx, h.get? e = none → h'.get? e = some { cls := .ref 44, dict := some dx, data := .fields #[.ref a', .none, .none, .none, .bool false, .none] } → (∀ b o, h.get? b = some o → h'.get? b = some o) → Q (.ref e) ⟨h', g, d, t', os⟩) :
    wpAny (model prog w) A (call (.ref 44) [v]) Q E ⟨h, g, d, t, os⟩ := by
  obtain ⟨nm, q, N, bs, sn, sub, ab, col, dd, k0, k1, k2, k3, k5, nid, hC, rfl⟩ := k.cls
  obtain ⟨o28, hl, hd, hc28⟩ := k.look
  refine call_H PySem.F.excBase_Exception (by decide +kernel) (by decide +kernel) (by decide +kernel) (X _ _ hC) (looks_findIn X k.ini) (X _ _ hl) hc28 fun h1 e hm => ?_
  obtain ⟨a, ha, _, _⟩ := hm.there
  have neK : ∀ b o, h.get? b = some o → b ≠ e := fun b o hb z => by rw [z, hm.new] at hb; cases hb
  refine init_call k (by show A.depth + 1 < recursionLimit; exact hroom) (X.keeps hm.keeps) (hg.keeps hm.keeps) (hbn.keeps hm.keeps) hmb (hlim.keeps hm.keeps) ha (fun z => ?_) (fun o z => ?_) fun h' t' a' dx q1 q2 => ⟨rfl, hq h' t' e a' dx hm.new q1 fun b o hb => q2 b o (neK b o hb) (hm.keeps b o hb)⟩
  · obtain ⟨o, _, _, z1, _⟩ := hg
    exact neK _ _ z1 z.symm
  · exact neK _ _ (X _ _ z) rfl
theorem raise_H (k : ExK K fd) {env : Env} {s : Shared} {x : Sem Value} {Q : Flow → Shared → Prop} (hh : A.handled = none)
    (h : wpAny (model prog w) A x (fun v s₁ => ∃ e a dx, v = .ref e ∧ K.In s₁.heap ∧
      s₁.heap.get? e = some { cls := .ref 44, dict := some dx, data := .fields #[.ref a, .none, .none, .none, .bool false, .none] } ∧ E (.ref e) s₁) E s) :
    wpAny (model prog w) A (raiseStmt env (some x) none) Q E s := by
  obtain ⟨nm, q, N, bs, sn, sub, ab, col, dd, k0, k1, k2, k3, k5, nid, hC, rfl⟩ := k.cls
  have hcB : (Value.ref 44 :: [Value.ref 31, .type "Exception", .type "BaseException", .type "object"]).contains (.type "BaseException") = true := by decide +kernel
  unfold raiseStmt
  refine wpAny_bind (wpAny_mono h (fun v s₁ h₁ => ?_) fun _ _ x => x)
  obtain ⟨e, a, dx, rfl, X, he, hE⟩ := h₁
  have hC := X _ _ hC
  obtain ⟨hp, g, d, tk, os⟩ := s₁
  repeat (first | with_reducible refine wpAny_loadPart_at he ?_ | with_reducible refine wpAny_loadPart_at hC ?_ | (with_reducible refine wpAny_isSubtype_exc hC ?_; rw [hcB]) | wp_step)
  exact wpAny_raiseNew_none hh hE
end
section
variable {prog : Program} {Φ : Act} {lv : Nat}
theorem frames_of (O : Ok prog Φ lv) {σ : List Addr} {imm : List (Addr × Obj)} {st : St} {s : Shared} (r : Rel prog Φ σ imm st s) : ∀ l : List Env, (∀ e ∈ l, e ∈ Φ.stk) → s.heap.FunFrames Φ.H0 l
  | [], _ => trivial
  | e :: l, h => by
    obtain ⟨q1, a, q2, q3⟩ := O.lk e (h e List.mem_cons_self)
    have hr := frames_of O r l fun e' he' => h e' (List.mem_cons_of_mem _ he')
    rcases q3 with rfl | ⟨m, hm⟩
    · obtain ⟨m, hn, _⟩ := r.loc
      exact Heap.FunFrames.cons q1 q2 hn (none_of_size r.newL) hr
    · exact Heap.FunFrames.cons q1 q2 (r.outs _ hm) (r.newO _ hm).1 hr
theorem SX_raise (O : Ok prog Φ lv) (hF : OkF Φ) {fd : FuncData} (k : ExK Φ.K fd) {np pos cpos p1 : Pos} {m : Str} {kk : Nat} (hx : Φ.env.kindOf "Corrupt" = some .globalImplicit) :
    SX prog Φ (.Raise (some (.Call (.Name "Corrupt" np) [.Constant (.str m) kk p1] [] cpos)) none pos) mRaise := fun σ imm st s r hne => by
  obtain ⟨nm, q, N, bs, sn, sub, ab, col, dd, k0, k1, k2, k3, k5, nid, hC, hnid⟩ := k.cls
  have hm : Φ.mb "Exception" = bootBuiltins "Exception" := O.bi _ (by decide +kernel)
  have X : Φ.K.In s.heap := O.X.keeps r.keep
  have hg : s.heap.Ns mainGlobals Φ.mg := O.g.keeps r.keep
  have hb : s.heap.Ns builtinsNs Φ.mb := O.b.keeps r.keep
  have hl : s.heap.NoLimit := O.lim.keeps r.keep
  have hd := O.dep
  refine wpC_of ?_
  rw [arm_exec_Raise]
  refine wpAny_bind (wpAny_standAt (raise_H k O.hh (wpAny_bind (wpAny_mono (wpAny_Call_ofName (Calls.Name_function_global O.kind hx (Calls.loadGlobal_global (O.globals ▸ hg) (mg_of X hg k.cor) ?_) rfl)) (fun v s₃ h₃ => wpAny_bind (wpAny_standAt (wpAny_pure h₃))) fun _ _ x => x))))
  refine any_callWith_exc rfl (Calls.spliced_cons (Calls.Constant_str (k := kk) (pos := p1) (Calls.spliced_nil ⟨X _ _ hC, ?_⟩)))
  refine made_exc k (by lia) X hg hb hm hl fun h' t' e a' dx q1 q2 q3 => ?_
  refine ⟨e, a', dx, rfl, X.keeps q3, q2, rfl, ?_⟩
  have r' : Rel prog Φ σ imm st ⟨h', s.gens, s.drawn, t', s.os⟩ := r.grow q3 rfl rfl rfl
  have hfree := (r.free q1).1
  show wpAny _ _ _ _ _ _
  refine wpAny_leaving_firstW (base := Φ.H0) (outer := Φ.outer) (by rw [O.fr, hF.1]) (frames_of O r' _ (by rw [hF.1]; exact fun _ h => h)) hF.2 q2 r'.keep hfree rfl rfl rfl fun h2 hL => ?_
  obtain ⟨z1, ⟨_, _, z2⟩, z3, z4⟩ := hL
  have z5 : Heap.UpToSlots h' h2 := z4
  refine ⟨e, _, rfl, ⟨z1, hfree, z2, z3⟩, r.gens, r.drawn, r.os, fun p hp => z5.ns (r'.outs p hp), ?_⟩
  obtain ⟨m, hn, _⟩ := r'.loc
  exact ⟨m, z5.ns hn⟩
end
end Mine
end
section
/-! text X5 -/
open PySem PySem.W PyProof.Rows
set_option Elab.async false
set_option autoImplicit false
set_option linter.unusedVariables false
set_option maxRecDepth 100000
namespace Mine
open Sem (wp)
section
variable {prog : Program} {Φ : Act} {lv : Nat}
theorem snd_tryNone (O : Ok prog Φ lv) (hF : OkF Φ) {fd : FuncData} (k : ExK Φ.K fd) {e : Expr} {tp pos p1 p2 p3 p4 : Pos} {kk : Nat} {d : Mo V} (hx : Φ.env.kindOf "Corrupt" = some .globalImplicit) (h : SE prog Φ e d)
    {σ : List Addr} {st : St} {s : Shared} (r : Rel prog Φ σ [] st s) :
    Snd prog Φ FR (exec (.Try [.Return (some e) p1] [.ExceptHandler (some (.Name "Corrupt" tp)) none [.Return (some (.Constant .none kk p4)) p2] p3] [] [] pos) Φ.env) (mTryNone d st) σ [] s := fun hne => by
  obtain ⟨nm, q, N, bs, sn, sub, ab, col, dd, k0, k1, k2, k3, k5, nid, hC, hnid⟩ := k.cls
  have hb := SXs_one (SX_ret (pos := p1) O h) _ _ _ _ r
  have hne1 : mSeq (mRet d) mNext st ≠ .fail := fun z => hne (by
    unfold mSeq mRet at z; unfold mTryNone
    cases hd : d st with
    | ok v st' => rw [hd] at z; cases z
    | exc => rw [hd] at z; cases z
    | fail => rfl)
  rw [arm_exec_Try]
  refine wpC_bind (wpC_standAt ?_)
  unfold tryStmt
  simp only [List.isEmpty_nil, if_true, List.isEmpty_cons, Bool.false_and, Bool.false_eq_true, if_false]
  refine wpC_bind (wpC_attempt (wpC_mono (hb hne1) ?_ ?_))
  · rintro f s1 ⟨fv, st', σ', imm', e1, e2, e3, e4, e5⟩
    unfold mSeq mRet at e1
    cases hd : d st with
    | ok v st2 =>
      rw [hd] at e1
      have e1' : R.ok (FV.ret v) st2 = R.ok fv st' := e1
      cases e1'
      cases f with
      | ret y => exact wpC_pure ⟨.ret v, _, σ', imm', by unfold mTryNone; rw [hd], e2, e3, e4, e5⟩
      | _ => exact e5.elim
    | exc => rw [hd] at e1; cases e1
    | fail => rw [hd] at e1; cases e1
  · rintro x s1 ⟨e1, e2⟩
    have hd : d st = .exc := by
      unfold mSeq mRet at e1
      cases hd : d st with
      | ok v st2 => rw [hd] at e1; cases e1
      | exc => rfl
      | fail => rw [hd] at e1; cases e1
    have hcl : st.cells.length = 0 := by
      unfold mTryNone at hne
      rw [hd] at hne
      dsimp only at hne
      split at hne
      · rename_i z; exact z
      · exact absurd rfl hne
    have hr : mTryNone d st = .ok (.ret .none) ⟨[], []⟩ := by
      unfold mTryNone; rw [hd]; dsimp only; rw [if_pos hcl]
    have hσ : σ = [] := List.length_eq_zero_iff.mp (r.len.trans hcl)
    refine wpC_of ?_
    have e2 : wpAny (model prog Φ.w) Φ.A (leaving Φ.env x) (fun _ s'' => XPost Φ x s'') (fun _ _ => False) s1 := e2
    show wpAny _ _ (noteFrame x Φ.env >>= fun _ => setFlight x none >>= fun _ => handleBy x Φ.env _) _ _ _
    have key : ∀ s2, XPost Φ x s2 → wpAny (model prog Φ.w) Φ.A (handleBy x Φ.env [.ExceptHandler (some (.Name "Corrupt" tp)) none [.Return (some (.Constant .none kk p4)) p2] p3])
        (fun a s' => ∃ b st' σ' imm', mTryNone d st = .ok b st' ∧ σ <+: σ' ∧ ImmLe [] imm' ∧ Rel prog Φ σ' imm' st' s' ∧ FR (kno imm' Φ.Hk) σ' b a) (fun e s' => mTryNone d st = .exc ∧ Eb prog Φ e s') s2 := by
      rintro s2 ⟨a, a0, rfl, hfl, hg, hdr, hos, hout, m, hm⟩
      have X : Φ.K.In s2.heap := fun b o z => hfl.1 b o (O.X b o z)
      obtain ⟨ob, hob, hobc⟩ := hfl.there
      refine wpAny_handleBy_cons (codeAny_handlers_test (Calls.Name_function_global O.kind hx (Calls.loadGlobal_global (mg := Φ.mg) (O.globals ▸ O.g.keeps hfl.1) (mg_of O.X O.g k.cor) ?_) rfl)) (by intro q; cases q)
      obtain ⟨hp2, g2, d2, t2, os2⟩ := s2
      refine wpAny_excMatches_sub_self (X _ _ hC) hob hobc (by decide +kernel) (codeAny_handlers_suite ?_)
      refine lands_againW hfl fun h₆ hfl₆ hsm₆ => ?_
      refine wpAny_execs_cons ?_
      rw [arm_exec_Return]
      refine wpAny_bind (wpAny_standAt (wpAny_bind ?_))
      rw [eval_Constant]
      refine wpAny_pure (wpAny_pure ?_)
      refine ⟨.ret .none, ⟨[], []⟩, [], [], hr, hσ ▸ List.prefix_refl _, ImmLe.refl _, ?_, rfl⟩
      exact
        { gens := hg, drawn := hdr, os := hos, keep := hfl₆.1, loc := ⟨m, hsm₆.ns hm, fun i x v _ z => by simp at z⟩, len := rfl, cells := (fun k a c z => by simp at z), immK := (fun p hp => by cases hp)
          outs := fun p hp => hsm₆.ns (hout p hp), newL := r.newL, newC := (fun a ha => by cases ha), newI := (fun p hp => by cases hp), newO := r.newO, nod := List.nodup_nil, pre := hσ ▸ r.pre
          hk := r.hk, noSys := by simp, low := r.low }
    intro Γ p hΓ
    have e3 := e2 Γ p hΓ
    unfold leaving at e3
    rw [Sem.wp_bind'] at e3 ⊢
    refine Sem.wp_mono _ Γ _ (fun _ p2 s2 h2 => ?_) (fun _ _ _ z => z.elim) _ _ e3
    rw [Sem.wp_bind']
    exact Sem.wp_mono _ Γ _ (fun _ p3 s3 h3 => key s3 h3 Γ p3 hΓ) (fun _ _ _ z => z.elim) _ _ h2
theorem SB_tryNone (O : Ok prog Φ lv) (hF : OkF Φ) {fd : FuncData} (k : ExK Φ.K fd) {e : Expr} {tp pos p1 p2 p3 p4 : Pos} {kk : Nat} {d : Mo V} (hx : Φ.env.kindOf "Corrupt" = some .globalImplicit) (h : SE prog Φ e d) :
    SB prog Φ [.Try [.Return (some e) p1] [.ExceptHandler (some (.Name "Corrupt" tp)) none [.Return (some (.Constant .none kk p4)) p2] p3] [] [] pos] (mSeq (mTryNone d) mNext) := fun σ st s r => by
  rw [execs_cons]
  refine Snd.bind (snd_tryNone O hF k hx h r) fun f st' σ' imm' x s' _ hp hi r' hf => ?_
  cases f with
  | next =>
    cases x <;> first | exact hf.elim | exact SXs_nil _ _ _ _ r'
  | ret v =>
    cases x with
    | ret y => exact Snd.pure r' hf
    | _ => exact hf.elim
end
end Mine
end
section
/-! text S0 -/
open PySem PySem.W PyProof.Rows
set_option Elab.async false
set_option maxRecDepth 100000
set_option maxHeartbeats 4000000
namespace Mine
noncomputable def fdOf (K : Frag) (a : Addr) : FuncData := match K.lookup a with
  | some ⟨_, _, .func fd, _⟩ => fd
  | _ => default
noncomputable def bodyOf (fd : FuncData) : List Stmt := match fd.body with
  | .stmts b => b
  | _ => []
noncomputable abbrev KK (P : Params) : Frag := hd.heap_1 P
theorem len1 {α : Type} {xs : List α} (h : xs.length = 1) : ∃ a, xs = [a] := by
  match xs, h with
  | [a], _ => exact ⟨a, rfl⟩
theorem len2 {α : Type} {xs : List α} (h : xs.length = 2) : ∃ a b, xs = [a, b] := by
  match xs, h with
  | [a, b], _ => exact ⟨a, b, rfl⟩
theorem len3 {α : Type} {xs : List α} (h : xs.length = 3) : ∃ a b c, xs = [a, b, c] := by
  match xs, h with
  | [a, b, c], _ => exact ⟨a, b, c, rfl⟩
theorem len4 {α : Type} {xs : List α} (h : xs.length = 4) : ∃ a b c d, xs = [a, b, c, d] := by
  match xs, h with
  | [a, b, c, d], _ => exact ⟨a, b, c, d, rfl⟩
theorem loc_of {ps : List Str} {names : List (Str × NameKind)} (h : (ps.all fun x => decide (names.lookup x = some .local)) = true) : ∀ x ∈ ps, names.lookup x = some .local := fun x hx =>
  of_decide_eq_true (List.all_eq_true.mp h x hx)
theorem snd_noExc {prog : Program} {Φ : Act} {α β : Type} {ρ : VRel β α} {t : Sem α} {r : R β} {σ : List Addr} {imm : List (Addr × Obj)} {s : Shared} (h : r ≠ .exc → Snd prog Φ ρ t r σ imm s) : Snd prog Φ ρ t r.noExc σ imm s := by
  intro hne
  obtain ⟨h1, h2⟩ := noExc_ok hne
  cases r with
  | ok a st => exact h h2 h1
  | exc => exact absurd rfl h2
  | fail => exact absurd rfl h1
theorem kx0 (P : Params) : ExK (KK P) (fdOf (KK P) 28) where
  cls := ⟨_, _, _, _, _, _, _, _, _, _, _, _, _, _, _, rfl, rfl⟩
  ini := rfl
  sa := rfl
  why := rfl
  look := ⟨_, rfl, rfl, rfl⟩
  code := ⟨_, _, _, _, rfl, rfl, rfl, rfl⟩
  body := ⟨_, _, _, _, _, _, _, _, _, _, rfl, rfl⟩
  bind := fun x y => rfl
  nocell := fun x hx => by
    have h : ((fdOf (KK P) 28).scope.names.all fun x => x.2 != .cell) = true := rfl
    have := List.all_eq_true.mp h x hx
    intro z; rw [z] at this; exact absurd this (by decide)
  co := rfl
  gen := rfl
  kind := rfl
  glob := rfl
  bi := rfl
  self := rfl
  why' := rfl
  exn := rfl
  inter := fun L => rfl
  cor := rfl
  noExc := rfl
theorem kx (P : Params) {K : Frag} (hK : K = KK P) : ExK K (fdOf (KK P) 28) := by
  subst hK
  exact kx0 P
end Mine
end
section
/-! text S3 -/
open PySem PySem.W PyProof.Rows
set_option Elab.async false
set_option autoImplicit false
set_option linter.unusedVariables false
set_option maxRecDepth 100000
set_option maxHeartbeats 4000000
namespace Mine
theorem k0_hash_at (P : Params) : FnK (KK P) 53 (fdOf (KK P) 53) (["octets", "at"] : List Str) (["found"] : List Str) ([] : List Str) (bodyOf (fdOf (KK P) 53)) where
  look := ⟨_, rfl, rfl⟩
  code := ⟨_, _, _, _, rfl, rfl, rfl, rfl⟩
  body := rfl
  bind := fun xs h => by
    obtain ⟨x0, x1, rfl⟩ := len2 h
    rfl
  clo := rfl
  co := rfl
  gen := rfl
  kind := rfl
  glob := rfl
  bi := rfl
  nod := by decide +kernel
  loc := fun x hx => loc_of rfl x hx
  cells := fun n => rfl
  bx1 := by decide
theorem k_hash_at (P : Params) {K : Frag} (hK : K = KK P) : FnK K 53 (fdOf (KK P) 53) (["octets", "at"] : List Str) (["found"] : List Str) ([] : List Str) (bodyOf (fdOf (KK P) 53)) := by
  subst hK
  exact k0_hash_at P
theorem b_hash_at (P : Params) {prog : Program} {Φ : Act} {lv : Nat} (hK : Φ.K = KK P) (O : Ok prog Φ (lv + 0)) (hF : OkF Φ) (hN : Φ.names = (["octets", "at", "found"] : List Str)) (hE : Φ.env = callEnvC (fdOf (KK P) 53) Φ.L 53) : SB prog Φ (bodyOf (fdOf (KK P) 53)) d_hash_at := by
  have G_HASHES : ∀ p, SE prog Φ (.Name "HASHES" p) (mInt 256) := fun p => SE_glob O (by rw [hK]; rfl) (by rw [hE]; rfl) rfl
  have L_at : ∀ p, SE prog Φ (.Name "at" p) (mLoc 1) := fun p => SE_loc (by rw [hN]; rfl) O.kind (by rw [hE]; rfl) O.locals rfl
  have L_found : ∀ p, SE prog Φ (.Name "found" p) (mLoc 2) := fun p => SE_loc (by rw [hN]; rfl) O.kind (by rw [hE]; rfl) O.locals rfl
  have L_octets : ∀ p, SE prog Φ (.Name "octets" p) (mLoc 0) := fun p => SE_loc (by rw [hN]; rfl) O.kind (by rw [hE]; rfl) O.locals rfl
  have X_found : Φ.names[2]? = some ("found" : Str) := by rw [hN]; rfl
  have K_found : Φ.env.kindOf ("found" : Str) = some .local := by rw [hE]; rfl
  have T_found : IsTG Φ (.loc 2) "found" := .loc X_found K_found
  exact SXs.sb (SXs_cons (SX_asg O (SE_bin (SE_bin (SE_bin (SE_sub O (L_octets _) (L_at _) (fun _ _ => rfl)) SE_int) (SE_bin (SE_sub O (L_octets _) (SE_bin (L_at _) SE_int) (fun _ _ => rfl)) SE_int)) (SE_sub O (L_octets _) (SE_bin (L_at _) SE_int) (fun _ _ => rfl))) X_found K_found rfl) (SXs_cons (SX_asg O (SE_bin (L_found _) (SE_bin (L_found _) SE_int)) X_found K_found rfl) (SXs_cons (SX_asg O (SE_bin (L_found _) (SE_bin (L_found _) SE_int)) X_found K_found rfl) (SXs_cons (SX_ret O (SE_bin (L_found _) (G_HASHES _))) SXs_nil))))
theorem c_hash_at (P : Params) {prog : Program} {Φ : Act} {lv : Nat} (hK : Φ.K = KK P) (O : Ok prog Φ (lv + 1)) (hF : OkF Φ) {σ : List Addr} {imm : List (Addr × Obj)} {st : St} {s : Shared} {vs : List V} {xs : List Value} (r : Rel prog Φ σ imm st s) (h : VRs (kno imm Φ.Hk) σ vs xs) : Snd prog Φ VR (PySem.call (.ref 53) xs) (f_hash_at vs st) σ imm s :=
  snd_call (pass := false) (d := d_hash_at) O (k_hash_at P hK) (by decide) (fun Ψ q1 q2 q3 q4 q5 q6 => b_hash_at P (q1.trans hK) q2 q3 q4 q5) r h (.inl hF)
theorem k0_match_at (P : Params) : FnK (KK P) 60 (fdOf (KK P) 60) (["octets", "at", "begin"] : List Str) (["end", "behind"] : List Str) ([] : List Str) (bodyOf (fdOf (KK P) 60)) where
  look := ⟨_, rfl, rfl⟩
  code := ⟨_, _, _, _, rfl, rfl, rfl, rfl⟩
  body := rfl
  bind := fun xs h => by
    obtain ⟨x0, x1, x2, rfl⟩ := len3 h
    rfl
  clo := rfl
  co := rfl
  gen := rfl
  kind := rfl
  glob := rfl
  bi := rfl
  nod := by decide +kernel
  loc := fun x hx => loc_of rfl x hx
  cells := fun n => rfl
  bx1 := by decide
theorem k_match_at (P : Params) {K : Frag} (hK : K = KK P) : FnK K 60 (fdOf (KK P) 60) (["octets", "at", "begin"] : List Str) (["end", "behind"] : List Str) ([] : List Str) (bodyOf (fdOf (KK P) 60)) := by
  subst hK
  exact k0_match_at P
theorem b_match_at (P : Params) {prog : Program} {Φ : Act} {lv : Nat} (hK : Φ.K = KK P) (O : Ok prog Φ (lv + 0)) (hF : OkF Φ) (hN : Φ.names = (["octets", "at", "begin", "end", "behind"] : List Str)) (hE : Φ.env = callEnvC (fdOf (KK P) 60) Φ.L 60) : SB prog Φ (bodyOf (fdOf (KK P) 60)) d_match_at := by
  have N_len : ∀ p, SN prog Φ (.Name "len" p) (.builtin "len") := fun p => SN_boot O (by rw [hK]; rfl) boot_len (by decide +kernel) (by rw [hE]; rfl) rfl
  have N_min : ∀ p, SN prog Φ (.Name "min" p) (.builtin "min") := fun p => SN_boot O (by rw [hK]; rfl) boot_min (by decide +kernel) (by rw [hE]; rfl) rfl
  have G_MOST_MATCH : ∀ p, SE prog Φ (.Name "MOST_MATCH" p) (mInt 66) := fun p => SE_glob O (by rw [hK]; rfl) (by rw [hE]; rfl) rfl
  have L_at : ∀ p, SE prog Φ (.Name "at" p) (mLoc 1) := fun p => SE_loc (by rw [hN]; rfl) O.kind (by rw [hE]; rfl) O.locals rfl
  have L_begin : ∀ p, SE prog Φ (.Name "begin" p) (mLoc 2) := fun p => SE_loc (by rw [hN]; rfl) O.kind (by rw [hE]; rfl) O.locals rfl
  have L_behind : ∀ p, SE prog Φ (.Name "behind" p) (mLoc 4) := fun p => SE_loc (by rw [hN]; rfl) O.kind (by rw [hE]; rfl) O.locals rfl
  have L_end : ∀ p, SE prog Φ (.Name "end" p) (mLoc 3) := fun p => SE_loc (by rw [hN]; rfl) O.kind (by rw [hE]; rfl) O.locals rfl
  have L_octets : ∀ p, SE prog Φ (.Name "octets" p) (mLoc 0) := fun p => SE_loc (by rw [hN]; rfl) O.kind (by rw [hE]; rfl) O.locals rfl
  have X_behind : Φ.names[4]? = some ("behind" : Str) := by rw [hN]; rfl
  have K_behind : Φ.env.kindOf ("behind" : Str) = some .local := by rw [hE]; rfl
  have T_behind : IsTG Φ (.loc 4) "behind" := .loc X_behind K_behind
  have X_end : Φ.names[3]? = some ("end" : Str) := by rw [hN]; rfl
  have K_end : Φ.env.kindOf ("end" : Str) = some .local := by rw [hE]; rfl
  have T_end : IsTG Φ (.loc 3) "end" := .loc X_end K_end
  exact SXs.sb (SXs_cons (SX_asg O (SE_call O (N_min _) .bi (SEs_arg (SE_call O (N_len _) .bi (SEs_arg (L_octets _) SEs_nil rfl) rfl (fun _ _ _ _ _ _ r h => snd_len O r h) rfl) (SEs_arg (SE_bin (L_at _) (G_MOST_MATCH _)) SEs_nil rfl) rfl) rfl (fun _ _ _ _ _ _ r h => snd_min O r h) rfl) X_end K_end rfl) (SXs_cons (SX_asg O (L_at _) X_behind K_behind rfl) (SXs_cons (SX_while (fun _ => 5000) (ST_bool (STs_and (ST_cmp (L_behind _) (L_end _) rfl) (STs_and (ST_cmp (SE_sub O (L_octets _) (L_behind _) (fun _ _ => rfl)) (SE_sub O (L_octets _) (SE_bin (SE_bin (L_begin _) (L_behind _)) (L_at _)) (fun _ _ => rfl)) rfl) STs_nil))) (SXs_cons (SX_asg O (SE_bin (L_behind _) SE_int) X_behind K_behind rfl) SXs_nil)) (SXs_cons (SX_ret O (SE_bin (L_behind _) (L_at _))) SXs_nil))))
theorem c_match_at (P : Params) {prog : Program} {Φ : Act} {lv : Nat} (hK : Φ.K = KK P) (O : Ok prog Φ (lv + 1)) (hF : OkF Φ) {σ : List Addr} {imm : List (Addr × Obj)} {st : St} {s : Shared} {vs : List V} {xs : List Value} (r : Rel prog Φ σ imm st s) (h : VRs (kno imm Φ.Hk) σ vs xs) : Snd prog Φ VR (PySem.call (.ref 60) xs) (f_match_at vs st) σ imm s :=
  snd_call (pass := false) (d := d_match_at) O (k_match_at P hK) (by decide) (fun Ψ q1 q2 q3 q4 q5 q6 => b_match_at P (q1.trans hK) q2 q3 q4 q5) r h (.inl hF)
theorem k0_found_match (P : Params) : FnK (KK P) 67 (fdOf (KK P) 67) (["octets", "at", "places"] : List Str) (["mark", "begin", "many"] : List Str) ([] : List Str) (bodyOf (fdOf (KK P) 67)) where
  look := ⟨_, rfl, rfl⟩
  code := ⟨_, _, _, _, rfl, rfl, rfl, rfl⟩
  body := rfl
  bind := fun xs h => by
    obtain ⟨x0, x1, x2, rfl⟩ := len3 h
    rfl
  clo := rfl
  co := rfl
  gen := rfl
  kind := rfl
  glob := rfl
  bi := rfl
  nod := by decide +kernel
  loc := fun x hx => loc_of rfl x hx
  cells := fun n => rfl
  bx1 := by decide
theorem k_found_match (P : Params) {K : Frag} (hK : K = KK P) : FnK K 67 (fdOf (KK P) 67) (["octets", "at", "places"] : List Str) (["mark", "begin", "many"] : List Str) ([] : List Str) (bodyOf (fdOf (KK P) 67)) := by
  subst hK
  exact k0_found_match P
theorem b_found_match (P : Params) {prog : Program} {Φ : Act} {lv : Nat} (hK : Φ.K = KK P) (O : Ok prog Φ (lv + 1)) (hF : OkF Φ) (hN : Φ.names = (["octets", "at", "places", "mark", "begin", "many"] : List Str)) (hE : Φ.env = callEnvC (fdOf (KK P) 67) Φ.L 67) : SB prog Φ (bodyOf (fdOf (KK P) 67)) d_found_match := by
  have C_hash_at : Callee Φ.K (.ref 53) := by rw [hK]; exact .fn (k_hash_at P rfl).look.choose_spec.1 (k_hash_at P rfl).look.choose_spec.2
  have H_hash_at : ∀ {σ : List Addr} {imm : List (Addr × Obj)} {st : St} {s : Shared} {vs : List V} {xs : List Value}, Rel prog Φ σ imm st s → VRs (kno imm Φ.Hk) σ vs xs → Snd prog Φ VR (PySem.call (.ref 53) xs) (f_hash_at vs st) σ imm s := fun r h => c_hash_at P hK O hF r h
  have C_match_at : Callee Φ.K (.ref 60) := by rw [hK]; exact .fn (k_match_at P rfl).look.choose_spec.1 (k_match_at P rfl).look.choose_spec.2
  have H_match_at : ∀ {σ : List Addr} {imm : List (Addr × Obj)} {st : St} {s : Shared} {vs : List V} {xs : List Value}, Rel prog Φ σ imm st s → VRs (kno imm Φ.Hk) σ vs xs → Snd prog Φ VR (PySem.call (.ref 60) xs) (f_match_at vs st) σ imm s := fun r h => c_match_at P hK O hF r h
  have N_hash_at : ∀ p, SN prog Φ (.Name "hash_at" p) (.ref 53) := fun p => SN_glob O (by rw [hK]; rfl) (by rw [hE]; rfl) rfl
  have N_len : ∀ p, SN prog Φ (.Name "len" p) (.builtin "len") := fun p => SN_boot O (by rw [hK]; rfl) boot_len (by decide +kernel) (by rw [hE]; rfl) rfl
  have N_match_at : ∀ p, SN prog Φ (.Name "match_at" p) (.ref 60) := fun p => SN_glob O (by rw [hK]; rfl) (by rw [hE]; rfl) rfl
  have G_LEAST_MATCH : ∀ p, SE prog Φ (.Name "LEAST_MATCH" p) (mInt 3) := fun p => SE_glob O (by rw [hK]; rfl) (by rw [hE]; rfl) rfl
  have G_OFFSETS : ∀ p, SE prog Φ (.Name "OFFSETS" p) (mInt 1024) := fun p => SE_glob O (by rw [hK]; rfl) (by rw [hE]; rfl) rfl
  have L_at : ∀ p, SE prog Φ (.Name "at" p) (mLoc 1) := fun p => SE_loc (by rw [hN]; rfl) O.kind (by rw [hE]; rfl) O.locals rfl
  have L_begin : ∀ p, SE prog Φ (.Name "begin" p) (mLoc 4) := fun p => SE_loc (by rw [hN]; rfl) O.kind (by rw [hE]; rfl) O.locals rfl
  have L_many : ∀ p, SE prog Φ (.Name "many" p) (mLoc 5) := fun p => SE_loc (by rw [hN]; rfl) O.kind (by rw [hE]; rfl) O.locals rfl
  have L_mark : ∀ p, SE prog Φ (.Name "mark" p) (mLoc 3) := fun p => SE_loc (by rw [hN]; rfl) O.kind (by rw [hE]; rfl) O.locals rfl
  have L_octets : ∀ p, SE prog Φ (.Name "octets" p) (mLoc 0) := fun p => SE_loc (by rw [hN]; rfl) O.kind (by rw [hE]; rfl) O.locals rfl
  have L_places : ∀ p, SE prog Φ (.Name "places" p) (mLoc 2) := fun p => SE_loc (by rw [hN]; rfl) O.kind (by rw [hE]; rfl) O.locals rfl
  have X_begin : Φ.names[4]? = some ("begin" : Str) := by rw [hN]; rfl
  have K_begin : Φ.env.kindOf ("begin" : Str) = some .local := by rw [hE]; rfl
  have T_begin : IsTG Φ (.loc 4) "begin" := .loc X_begin K_begin
  have X_many : Φ.names[5]? = some ("many" : Str) := by rw [hN]; rfl
  have K_many : Φ.env.kindOf ("many" : Str) = some .local := by rw [hE]; rfl
  have T_many : IsTG Φ (.loc 5) "many" := .loc X_many K_many
  have X_mark : Φ.names[3]? = some ("mark" : Str) := by rw [hN]; rfl
  have K_mark : Φ.env.kindOf ("mark" : Str) = some .local := by rw [hE]; rfl
  have T_mark : IsTG Φ (.loc 3) "mark" := .loc X_mark K_mark
  exact SXs.sb (SXs_cons (SX_if (ST_cmp (SE_bin (L_at _) (G_LEAST_MATCH _)) (SE_call O (N_len _) .bi (SEs_arg (L_octets _) SEs_nil rfl) rfl (fun _ _ _ _ _ _ r h => snd_len O r h) rfl) rfl) (SXs_cons (SX_ret O (SE_tup (SEs_arg SE_int (SEs_arg SE_int SEs_nil rfl) rfl))) SXs_nil) SXs_nil) (SXs_cons (SX_asg O (SE_call O (N_hash_at _) (C_hash_at) (SEs_arg (L_octets _) (SEs_arg (L_at _) SEs_nil rfl) rfl) rfl (fun _ _ _ _ _ _ r h => H_hash_at r h) rfl) X_mark K_mark rfl) (SXs_cons (SX_asg O (SE_meth O (L_places _) (SEs_arg (L_mark _) SEs_nil rfl) rfl rfl rfl rfl pa_dict sl_dict_get ty_dict_get ht_isDictC (fun _ _ _ _ _ _ _ _ r hv h => snd_get O r hv h)) X_begin K_begin rfl) (SXs_cons (SX_asgSub O (L_places _) (L_mark _) (L_at _) rfl) (SXs_cons (SX_if (ST_bool (STs_or (ST_cmp (L_begin _) SE_none rfl) (STs_or (ST_cmp (SE_bin (L_at _) (L_begin _)) (G_OFFSETS _) rfl) STs_nil))) (SXs_cons (SX_ret O (SE_tup (SEs_arg SE_int (SEs_arg SE_int SEs_nil rfl) rfl))) SXs_nil) SXs_nil) (SXs_cons (SX_asg O (SE_call O (N_match_at _) (C_match_at) (SEs_arg (L_octets _) (SEs_arg (L_at _) (SEs_arg (L_begin _) SEs_nil rfl) rfl) rfl) rfl (fun _ _ _ _ _ _ r h => H_match_at r h) rfl) X_many K_many rfl) (SXs_cons (SX_ret O (SE_if (ST_cmp (L_many _) (G_LEAST_MATCH _) rfl) (SE_tup (SEs_arg (L_many _) (SEs_arg (SE_bin (L_at _) (L_begin _)) SEs_nil rfl) rfl)) (SE_tup (SEs_arg SE_int (SEs_arg SE_int SEs_nil rfl) rfl)))) SXs_nil)))))))
theorem c_found_match (P : Params) {prog : Program} {Φ : Act} {lv : Nat} (hK : Φ.K = KK P) (O : Ok prog Φ (lv + 2)) (hF : OkF Φ) {σ : List Addr} {imm : List (Addr × Obj)} {st : St} {s : Shared} {vs : List V} {xs : List Value} (r : Rel prog Φ σ imm st s) (h : VRs (kno imm Φ.Hk) σ vs xs) : Snd prog Φ VR (PySem.call (.ref 67) xs) (f_found_match vs st) σ imm s :=
  snd_call (pass := true) (d := d_found_match) O (k_found_match P hK) (by decide) (fun Ψ q1 q2 q3 q4 q5 q6 => b_found_match P (q1.trans hK) q2 q3 q4 q5) r h (.inl hF)
theorem k0_match_octets (P : Params) : FnK (KK P) 74 (fdOf (KK P) 74) (["many", "offset"] : List Str) ([] : List Str) ([] : List Str) (bodyOf (fdOf (KK P) 74)) where
  look := ⟨_, rfl, rfl⟩
  code := ⟨_, _, _, _, rfl, rfl, rfl, rfl⟩
  body := rfl
  bind := fun xs h => by
    obtain ⟨x0, x1, rfl⟩ := len2 h
    rfl
  clo := rfl
  co := rfl
  gen := rfl
  kind := rfl
  glob := rfl
  bi := rfl
  nod := by decide +kernel
  loc := fun x hx => loc_of rfl x hx
  cells := fun n => rfl
  bx1 := by decide
theorem k_match_octets (P : Params) {K : Frag} (hK : K = KK P) : FnK K 74 (fdOf (KK P) 74) (["many", "offset"] : List Str) ([] : List Str) ([] : List Str) (bodyOf (fdOf (KK P) 74)) := by
  subst hK
  exact k0_match_octets P
theorem b_match_octets (P : Params) {prog : Program} {Φ : Act} {lv : Nat} (hK : Φ.K = KK P) (O : Ok prog Φ (lv + 0)) (hF : OkF Φ) (hN : Φ.names = (["many", "offset"] : List Str)) (hE : Φ.env = callEnvC (fdOf (KK P) 74) Φ.L 74) : SB prog Φ (bodyOf (fdOf (KK P) 74)) d_match_octets := by
  have N_bytes : ∀ p, SN prog Φ (.Name "bytes" p) (.type "bytes") := fun p => SN_boot O (by rw [hK]; rfl) boot_bytes (by decide +kernel) (by rw [hE]; rfl) rfl
  have G_LEAST_MATCH : ∀ p, SE prog Φ (.Name "LEAST_MATCH" p) (mInt 3) := fun p => SE_glob O (by rw [hK]; rfl) (by rw [hE]; rfl) rfl
  have L_many : ∀ p, SE prog Φ (.Name "many" p) (mLoc 0) := fun p => SE_loc (by rw [hN]; rfl) O.kind (by rw [hE]; rfl) O.locals rfl
  have L_offset : ∀ p, SE prog Φ (.Name "offset" p) (mLoc 1) := fun p => SE_loc (by rw [hN]; rfl) O.kind (by rw [hE]; rfl) O.locals rfl
  exact SXs.sb (SXs_cons (SX_ret O (SE_call O (N_bytes _) .ty (SEs_arg (SE_lst (SEs_arg (SE_bin (SE_bin (SE_bin (L_many _) (G_LEAST_MATCH _)) SE_int) (SE_bin (L_offset _) SE_int)) (SEs_arg (SE_bin (L_offset _) SE_int) SEs_nil rfl) rfl)) SEs_nil rfl) rfl (fun _ _ _ _ _ _ r h => snd_bytes O r h) rfl)) SXs_nil)
theorem c_match_octets (P : Params) {prog : Program} {Φ : Act} {lv : Nat} (hK : Φ.K = KK P) (O : Ok prog Φ (lv + 1)) (hF : OkF Φ) {σ : List Addr} {imm : List (Addr × Obj)} {st : St} {s : Shared} {vs : List V} {xs : List Value} (r : Rel prog Φ σ imm st s) (h : VRs (kno imm Φ.Hk) σ vs xs) : Snd prog Φ VR (PySem.call (.ref 74) xs) (f_match_octets vs st) σ imm s :=
  snd_call (pass := false) (d := d_match_octets) O (k_match_octets P hK) (by decide) (fun Ψ q1 q2 q3 q4 q5 q6 => b_match_octets P (q1.trans hK) q2 q3 q4 q5) r h (.inl hF)
theorem k0_lzjb_pack (P : Params) : FnK (KK P) 81 (fdOf (KK P) 81) (["octets", "most"] : List Str) (["found", "places", "at", "thing", "here", "many", "offset"] : List Str) ([] : List Str) (bodyOf (fdOf (KK P) 81)) where
  look := ⟨_, rfl, rfl⟩
  code := ⟨_, _, _, _, rfl, rfl, rfl, rfl⟩
  body := rfl
  bind := fun xs h => by
    obtain ⟨x0, x1, rfl⟩ := len2 h
    rfl
  clo := rfl
  co := rfl
  gen := rfl
  kind := rfl
  glob := rfl
  bi := rfl
  nod := by decide +kernel
  loc := fun x hx => loc_of rfl x hx
  cells := fun n => rfl
  bx1 := by decide
theorem k_lzjb_pack (P : Params) {K : Frag} (hK : K = KK P) : FnK K 81 (fdOf (KK P) 81) (["octets", "most"] : List Str) (["found", "places", "at", "thing", "here", "many", "offset"] : List Str) ([] : List Str) (bodyOf (fdOf (KK P) 81)) := by
  subst hK
  exact k0_lzjb_pack P
theorem b_lzjb_pack (P : Params) {prog : Program} {Φ : Act} {lv : Nat} (hK : Φ.K = KK P) (O : Ok prog Φ (lv + 2)) (hF : OkF Φ) (hN : Φ.names = (["octets", "most", "found", "places", "at", "thing", "here", "many", "offset"] : List Str)) (hE : Φ.env = callEnvC (fdOf (KK P) 81) Φ.L 81) : SB prog Φ (bodyOf (fdOf (KK P) 81)) d_lzjb_pack := by
  have C_found_match : Callee Φ.K (.ref 67) := by rw [hK]; exact .fn (k_found_match P rfl).look.choose_spec.1 (k_found_match P rfl).look.choose_spec.2
  have H_found_match : ∀ {σ : List Addr} {imm : List (Addr × Obj)} {st : St} {s : Shared} {vs : List V} {xs : List Value}, Rel prog Φ σ imm st s → VRs (kno imm Φ.Hk) σ vs xs → Snd prog Φ VR (PySem.call (.ref 67) xs) (f_found_match vs st) σ imm s := fun r h => c_found_match P hK O hF r h
  have C_match_octets : Callee Φ.K (.ref 74) := by rw [hK]; exact .fn (k_match_octets P rfl).look.choose_spec.1 (k_match_octets P rfl).look.choose_spec.2
  have H_match_octets : ∀ {σ : List Addr} {imm : List (Addr × Obj)} {st : St} {s : Shared} {vs : List V} {xs : List Value}, Rel prog Φ σ imm st s → VRs (kno imm Φ.Hk) σ vs xs → Snd prog Φ VR (PySem.call (.ref 74) xs) (f_match_octets vs st) σ imm s := fun r h => c_match_octets P hK O hF r h
  have N_bytearray : ∀ p, SN prog Φ (.Name "bytearray" p) (.type "bytearray") := fun p => SN_boot O (by rw [hK]; rfl) boot_bytearray (by decide +kernel) (by rw [hE]; rfl) rfl
  have N_bytes : ∀ p, SN prog Φ (.Name "bytes" p) (.type "bytes") := fun p => SN_boot O (by rw [hK]; rfl) boot_bytes (by decide +kernel) (by rw [hE]; rfl) rfl
  have N_found_match : ∀ p, SN prog Φ (.Name "found_match" p) (.ref 67) := fun p => SN_glob O (by rw [hK]; rfl) (by rw [hE]; rfl) rfl
  have N_len : ∀ p, SN prog Φ (.Name "len" p) (.builtin "len") := fun p => SN_boot O (by rw [hK]; rfl) boot_len (by decide +kernel) (by rw [hE]; rfl) rfl
  have N_match_octets : ∀ p, SN prog Φ (.Name "match_octets" p) (.ref 74) := fun p => SN_glob O (by rw [hK]; rfl) (by rw [hE]; rfl) rfl
  have G_THINGS : ∀ p, SE prog Φ (.Name "THINGS" p) (mInt 8) := fun p => SE_glob O (by rw [hK]; rfl) (by rw [hE]; rfl) rfl
  have L_at : ∀ p, SE prog Φ (.Name "at" p) (mLoc 4) := fun p => SE_loc (by rw [hN]; rfl) O.kind (by rw [hE]; rfl) O.locals rfl
  have L_found : ∀ p, SE prog Φ (.Name "found" p) (mLoc 2) := fun p => SE_loc (by rw [hN]; rfl) O.kind (by rw [hE]; rfl) O.locals rfl
  have L_here : ∀ p, SE prog Φ (.Name "here" p) (mLoc 6) := fun p => SE_loc (by rw [hN]; rfl) O.kind (by rw [hE]; rfl) O.locals rfl
  have L_many : ∀ p, SE prog Φ (.Name "many" p) (mLoc 7) := fun p => SE_loc (by rw [hN]; rfl) O.kind (by rw [hE]; rfl) O.locals rfl
  have L_most : ∀ p, SE prog Φ (.Name "most" p) (mLoc 1) := fun p => SE_loc (by rw [hN]; rfl) O.kind (by rw [hE]; rfl) O.locals rfl
  have L_octets : ∀ p, SE prog Φ (.Name "octets" p) (mLoc 0) := fun p => SE_loc (by rw [hN]; rfl) O.kind (by rw [hE]; rfl) O.locals rfl
  have L_offset : ∀ p, SE prog Φ (.Name "offset" p) (mLoc 8) := fun p => SE_loc (by rw [hN]; rfl) O.kind (by rw [hE]; rfl) O.locals rfl
  have L_places : ∀ p, SE prog Φ (.Name "places" p) (mLoc 3) := fun p => SE_loc (by rw [hN]; rfl) O.kind (by rw [hE]; rfl) O.locals rfl
  have L_thing : ∀ p, SE prog Φ (.Name "thing" p) (mLoc 5) := fun p => SE_loc (by rw [hN]; rfl) O.kind (by rw [hE]; rfl) O.locals rfl
  have X_at : Φ.names[4]? = some ("at" : Str) := by rw [hN]; rfl
  have K_at : Φ.env.kindOf ("at" : Str) = some .local := by rw [hE]; rfl
  have T_at : IsTG Φ (.loc 4) "at" := .loc X_at K_at
  have X_found : Φ.names[2]? = some ("found" : Str) := by rw [hN]; rfl
  have K_found : Φ.env.kindOf ("found" : Str) = some .local := by rw [hE]; rfl
  have T_found : IsTG Φ (.loc 2) "found" := .loc X_found K_found
  have X_here : Φ.names[6]? = some ("here" : Str) := by rw [hN]; rfl
  have K_here : Φ.env.kindOf ("here" : Str) = some .local := by rw [hE]; rfl
  have T_here : IsTG Φ (.loc 6) "here" := .loc X_here K_here
  have X_many : Φ.names[7]? = some ("many" : Str) := by rw [hN]; rfl
  have K_many : Φ.env.kindOf ("many" : Str) = some .local := by rw [hE]; rfl
  have T_many : IsTG Φ (.loc 7) "many" := .loc X_many K_many
  have X_offset : Φ.names[8]? = some ("offset" : Str) := by rw [hN]; rfl
  have K_offset : Φ.env.kindOf ("offset" : Str) = some .local := by rw [hE]; rfl
  have T_offset : IsTG Φ (.loc 8) "offset" := .loc X_offset K_offset
  have X_places : Φ.names[3]? = some ("places" : Str) := by rw [hN]; rfl
  have K_places : Φ.env.kindOf ("places" : Str) = some .local := by rw [hE]; rfl
  have T_places : IsTG Φ (.loc 3) "places" := .loc X_places K_places
  have X_thing : Φ.names[5]? = some ("thing" : Str) := by rw [hN]; rfl
  have K_thing : Φ.env.kindOf ("thing" : Str) = some .local := by rw [hE]; rfl
  have T_thing : IsTG Φ (.loc 5) "thing" := .loc X_thing K_thing
  exact SXs.sb (SXs_cons (SX_asgT O (SE_tup (SEs_arg (SE_call O (N_bytearray _) .ty SEs_nil rfl (fun _ _ _ _ _ _ r h => snd_barr O r h) rfl) (SEs_arg SE_dictC (SEs_arg SE_int (SEs_arg SE_int (SEs_arg SE_int SEs_nil rfl) rfl) rfl) rfl) rfl)) (.name T_found (.name T_places (.name T_at (.name T_thing (.name T_here .nil))))) rfl rfl rfl rfl (by first | rfl | (rw [hE]; rfl) | (rw [hE]; with_unfolding_all rfl))) (SXs_cons (SX_while (fun _ => 5000) (ST_cmp (L_at _) (SE_call O (N_len _) .bi (SEs_arg (L_octets _) SEs_nil rfl) rfl (fun _ _ _ _ _ _ r h => snd_len O r h) rfl) rfl) (SXs_cons (SX_if (ST_cmp (L_thing _) SE_int rfl) (SXs_cons (SX_asg O (SE_call O (N_len _) .bi (SEs_arg (L_found _) SEs_nil rfl) rfl (fun _ _ _ _ _ _ r h => snd_len O r h) rfl) X_here K_here rfl) (SXs_cons (SX_drop (SE_meth O (L_found _) (SEs_arg SE_int SEs_nil rfl) rfl rfl rfl rfl pa_bytearray sl_bytearray_append ty_bytearray_append ht_isBarrC (fun _ _ _ _ _ _ _ _ r hv h => snd_bappend O r hv h)) (exec_Expr _ _ _ (by rw [hE]; rfl) rfl)) SXs_nil)) SXs_nil) (SXs_cons (SX_asgT O (SE_call O (N_found_match _) (C_found_match) (SEs_arg (L_octets _) (SEs_arg (L_at _) (SEs_arg (L_places _) SEs_nil rfl) rfl) rfl) rfl (fun _ _ _ _ _ _ r h => H_found_match r h) rfl) (.name T_many (.name T_offset .nil)) rfl rfl rfl rfl (by first | rfl | (rw [hE]; rfl) | (rw [hE]; with_unfolding_all rfl))) (SXs_cons (SX_if (ST_cmp (L_many _) SE_int rfl) (SXs_cons (SX_asgSub O (L_found _) (L_here _) (SE_bin (SE_sub O (L_found _) (L_here _) (fun _ _ => rfl)) (SE_bin SE_int (L_thing _))) rfl) (SXs_cons (SX_drop (SE_meth O (L_found _) (SEs_arg (SE_call O (N_match_octets _) (C_match_octets) (SEs_arg (L_many _) (SEs_arg (L_offset _) SEs_nil rfl) rfl) rfl (fun _ _ _ _ _ _ r h => H_match_octets r h) rfl) SEs_nil rfl) rfl rfl rfl rfl pa_bytearray sl_bytearray_extend ty_bytearray_extend ht_isBarrC (fun _ _ _ _ _ _ _ _ r hv h => snd_bextend O r hv h)) (exec_Expr _ _ _ (by rw [hE]; rfl) rfl)) (SXs_cons (SX_asg O (SE_bin (L_at _) (L_many _)) X_at K_at rfl) SXs_nil))) (SXs_cons (SX_drop (SE_meth O (L_found _) (SEs_arg (SE_sub O (L_octets _) (L_at _) (fun _ _ => rfl)) SEs_nil rfl) rfl rfl rfl rfl pa_bytearray sl_bytearray_append ty_bytearray_append ht_isBarrC (fun _ _ _ _ _ _ _ _ r hv h => snd_bappend O r hv h)) (exec_Expr _ _ _ (by rw [hE]; rfl) rfl)) (SXs_cons (SX_asg O (SE_bin (L_at _) SE_int) X_at K_at rfl) SXs_nil))) (SXs_cons (SX_asg O (SE_bin (SE_bin (L_thing _) SE_int) (G_THINGS _)) X_thing K_thing rfl) (SXs_cons (SX_if (ST_cmp (SE_call O (N_len _) .bi (SEs_arg (L_found _) SEs_nil rfl) rfl (fun _ _ _ _ _ _ r h => snd_len O r h) rfl) (L_most _) rfl) (SXs_cons (SX_ret O SE_none) SXs_nil) SXs_nil) SXs_nil)))))) (SXs_cons (SX_ret O (SE_call O (N_bytes _) .ty (SEs_arg (L_found _) SEs_nil rfl) rfl (fun _ _ _ _ _ _ r h => snd_bytes O r h) rfl)) SXs_nil)))
theorem c_lzjb_pack (P : Params) {prog : Program} {Φ : Act} {lv : Nat} (hK : Φ.K = KK P) (O : Ok prog Φ (lv + 3)) (hF : OkF Φ) {σ : List Addr} {imm : List (Addr × Obj)} {st : St} {s : Shared} {vs : List V} {xs : List Value} (r : Rel prog Φ σ imm st s) (h : VRs (kno imm Φ.Hk) σ vs xs) : Snd prog Φ VR (PySem.call (.ref 81) xs) (f_lzjb_pack vs st) σ imm s :=
  snd_call (pass := false) (d := d_lzjb_pack) O (k_lzjb_pack P hK) (by decide) (fun Ψ q1 q2 q3 q4 q5 q6 => b_lzjb_pack P (q1.trans hK) q2 q3 q4 q5) r h (.inl hF)
theorem k0_copied (P : Params) : FnK (KK P) 88 (fdOf (KK P) 88) (["found", "many", "offset", "size"] : List Str) (["turn"] : List Str) ([] : List Str) (bodyOf (fdOf (KK P) 88)) where
  look := ⟨_, rfl, rfl⟩
  code := ⟨_, _, _, _, rfl, rfl, rfl, rfl⟩
  body := rfl
  bind := fun xs h => by
    obtain ⟨x0, x1, x2, x3, rfl⟩ := len4 h
    rfl
  clo := rfl
  co := rfl
  gen := rfl
  kind := rfl
  glob := rfl
  bi := rfl
  nod := by decide +kernel
  loc := fun x hx => loc_of rfl x hx
  cells := fun n => rfl
  bx1 := by decide
theorem k_copied (P : Params) {K : Frag} (hK : K = KK P) : FnK K 88 (fdOf (KK P) 88) (["found", "many", "offset", "size"] : List Str) (["turn"] : List Str) ([] : List Str) (bodyOf (fdOf (KK P) 88)) := by
  subst hK
  exact k0_copied P
theorem b_copied (P : Params) {prog : Program} {Φ : Act} {lv : Nat} (hK : Φ.K = KK P) (O : Ok prog Φ (lv + 0)) (hF : OkF Φ) (hN : Φ.names = (["found", "many", "offset", "size", "turn"] : List Str)) (hE : Φ.env = callEnvC (fdOf (KK P) 88) Φ.L 88) : SB prog Φ (bodyOf (fdOf (KK P) 88)) d_copied := by
  have N_len : ∀ p, SN prog Φ (.Name "len" p) (.builtin "len") := fun p => SN_boot O (by rw [hK]; rfl) boot_len (by decide +kernel) (by rw [hE]; rfl) rfl
  have N_min : ∀ p, SN prog Φ (.Name "min" p) (.builtin "min") := fun p => SN_boot O (by rw [hK]; rfl) boot_min (by decide +kernel) (by rw [hE]; rfl) rfl
  have N_range : ∀ p, SN prog Φ (.Name "range" p) (.type "range") := fun p => SN_boot O (by rw [hK]; rfl) boot_range (by decide +kernel) (by rw [hE]; rfl) rfl
  have L_found : ∀ p, SE prog Φ (.Name "found" p) (mLoc 0) := fun p => SE_loc (by rw [hN]; rfl) O.kind (by rw [hE]; rfl) O.locals rfl
  have L_many : ∀ p, SE prog Φ (.Name "many" p) (mLoc 1) := fun p => SE_loc (by rw [hN]; rfl) O.kind (by rw [hE]; rfl) O.locals rfl
  have L_offset : ∀ p, SE prog Φ (.Name "offset" p) (mLoc 2) := fun p => SE_loc (by rw [hN]; rfl) O.kind (by rw [hE]; rfl) O.locals rfl
  have L_size : ∀ p, SE prog Φ (.Name "size" p) (mLoc 3) := fun p => SE_loc (by rw [hN]; rfl) O.kind (by rw [hE]; rfl) O.locals rfl
  have X_turn : Φ.names[4]? = some ("turn" : Str) := by rw [hN]; rfl
  have K_turn : Φ.env.kindOf ("turn" : Str) = some .local := by rw [hE]; rfl
  have T_turn : IsTG Φ (.loc 4) "turn" := .loc X_turn K_turn
  exact SXs.sb (SXs_cons (SX_if (ST_bool (STs_or (ST_cmp (L_offset _) SE_int rfl) (STs_or (ST_cmp (L_offset _) (SE_call O (N_len _) .bi (SEs_arg (L_found _) SEs_nil rfl) rfl (fun _ _ _ _ _ _ r h => snd_len O r h) rfl) rfl) STs_nil))) (SXs_cons (SX_raise O hF (kx P hK) (by rw [hE]; rfl)) SXs_nil) SXs_nil) (SXs_cons (SX_for O (SE_call O (N_range _) .ty (SEs_arg (SE_call O (N_min _) .bi (SEs_arg (L_many _) (SEs_arg (SE_bin (L_size _) (SE_call O (N_len _) .bi (SEs_arg (L_found _) SEs_nil rfl) rfl (fun _ _ _ _ _ _ r h => snd_len O r h) rfl)) SEs_nil rfl) rfl) rfl (fun _ _ _ _ _ _ r h => snd_min O r h) rfl) SEs_nil rfl) rfl (fun _ _ _ _ _ _ r h => snd_range O r h) rfl) (SA_name O T_turn) (SXs_cons (SX_drop (SE_meth O (L_found _) (SEs_arg (SE_sub O (L_found _) (SE_bin (SE_call O (N_len _) .bi (SEs_arg (L_found _) SEs_nil rfl) rfl (fun _ _ _ _ _ _ r h => snd_len O r h) rfl) (L_offset _)) (fun _ _ => rfl)) SEs_nil rfl) rfl rfl rfl rfl pa_bytearray sl_bytearray_append ty_bytearray_append ht_isBarrC (fun _ _ _ _ _ _ _ _ r hv h => snd_bappend O r hv h)) (exec_Expr _ _ _ (by rw [hE]; rfl) rfl)) SXs_nil) (fun _ => rfl)) SXs_nil))
theorem c_copied (P : Params) {prog : Program} {Φ : Act} {lv : Nat} (hK : Φ.K = KK P) (O : Ok prog Φ (lv + 1)) (hF : OkF Φ) {σ : List Addr} {imm : List (Addr × Obj)} {st : St} {s : Shared} {vs : List V} {xs : List Value} (r : Rel prog Φ σ imm st s) (h : VRs (kno imm Φ.Hk) σ vs xs) : Snd prog Φ VR (PySem.call (.ref 88) xs) (f_copied vs st) σ imm s :=
  snd_call (pass := true) (d := d_copied) O (k_copied P hK) (by decide) (fun Ψ q1 q2 q3 q4 q5 q6 => b_copied P (q1.trans hK) q2 q3 q4 q5) r h (.inl hF)
theorem k0_lzjb_unpack (P : Params) : FnK (KK P) 95 (fdOf (KK P) 95) (["octets", "size"] : List Str) (["found", "at", "thing", "marks", "wide"] : List Str) ([] : List Str) (bodyOf (fdOf (KK P) 95)) where
  look := ⟨_, rfl, rfl⟩
  code := ⟨_, _, _, _, rfl, rfl, rfl, rfl⟩
  body := rfl
  bind := fun xs h => by
    obtain ⟨x0, x1, rfl⟩ := len2 h
    rfl
  clo := rfl
  co := rfl
  gen := rfl
  kind := rfl
  glob := rfl
  bi := rfl
  nod := by decide +kernel
  loc := fun x hx => loc_of rfl x hx
  cells := fun n => rfl
  bx1 := by decide
theorem k_lzjb_unpack (P : Params) {K : Frag} (hK : K = KK P) : FnK K 95 (fdOf (KK P) 95) (["octets", "size"] : List Str) (["found", "at", "thing", "marks", "wide"] : List Str) ([] : List Str) (bodyOf (fdOf (KK P) 95)) := by
  subst hK
  exact k0_lzjb_unpack P
theorem b_lzjb_unpack (P : Params) {prog : Program} {Φ : Act} {lv : Nat} (hK : Φ.K = KK P) (O : Ok prog Φ (lv + 1)) (hF : OkF Φ) (hN : Φ.names = (["octets", "size", "found", "at", "thing", "marks", "wide"] : List Str)) (hE : Φ.env = callEnvC (fdOf (KK P) 95) Φ.L 95) : SB prog Φ (bodyOf (fdOf (KK P) 95)) d_lzjb_unpack := by
  have C_copied : Callee Φ.K (.ref 88) := by rw [hK]; exact .fn (k_copied P rfl).look.choose_spec.1 (k_copied P rfl).look.choose_spec.2
  have H_copied : ∀ {σ : List Addr} {imm : List (Addr × Obj)} {st : St} {s : Shared} {vs : List V} {xs : List Value}, Rel prog Φ σ imm st s → VRs (kno imm Φ.Hk) σ vs xs → Snd prog Φ VR (PySem.call (.ref 88) xs) (f_copied vs st) σ imm s := fun r h => c_copied P hK O hF r h
  have N_bytearray : ∀ p, SN prog Φ (.Name "bytearray" p) (.type "bytearray") := fun p => SN_boot O (by rw [hK]; rfl) boot_bytearray (by decide +kernel) (by rw [hE]; rfl) rfl
  have N_bytes : ∀ p, SN prog Φ (.Name "bytes" p) (.type "bytes") := fun p => SN_boot O (by rw [hK]; rfl) boot_bytes (by decide +kernel) (by rw [hE]; rfl) rfl
  have N_copied : ∀ p, SN prog Φ (.Name "copied" p) (.ref 88) := fun p => SN_glob O (by rw [hK]; rfl) (by rw [hE]; rfl) rfl
  have N_len : ∀ p, SN prog Φ (.Name "len" p) (.builtin "len") := fun p => SN_boot O (by rw [hK]; rfl) boot_len (by decide +kernel) (by rw [hE]; rfl) rfl
  have G_LEAST_MATCH : ∀ p, SE prog Φ (.Name "LEAST_MATCH" p) (mInt 3) := fun p => SE_glob O (by rw [hK]; rfl) (by rw [hE]; rfl) rfl
  have G_THINGS : ∀ p, SE prog Φ (.Name "THINGS" p) (mInt 8) := fun p => SE_glob O (by rw [hK]; rfl) (by rw [hE]; rfl) rfl
  have L_at : ∀ p, SE prog Φ (.Name "at" p) (mLoc 3) := fun p => SE_loc (by rw [hN]; rfl) O.kind (by rw [hE]; rfl) O.locals rfl
  have L_found : ∀ p, SE prog Φ (.Name "found" p) (mLoc 2) := fun p => SE_loc (by rw [hN]; rfl) O.kind (by rw [hE]; rfl) O.locals rfl
  have L_marks : ∀ p, SE prog Φ (.Name "marks" p) (mLoc 5) := fun p => SE_loc (by rw [hN]; rfl) O.kind (by rw [hE]; rfl) O.locals rfl
  have L_octets : ∀ p, SE prog Φ (.Name "octets" p) (mLoc 0) := fun p => SE_loc (by rw [hN]; rfl) O.kind (by rw [hE]; rfl) O.locals rfl
  have L_size : ∀ p, SE prog Φ (.Name "size" p) (mLoc 1) := fun p => SE_loc (by rw [hN]; rfl) O.kind (by rw [hE]; rfl) O.locals rfl
  have L_thing : ∀ p, SE prog Φ (.Name "thing" p) (mLoc 4) := fun p => SE_loc (by rw [hN]; rfl) O.kind (by rw [hE]; rfl) O.locals rfl
  have L_wide : ∀ p, SE prog Φ (.Name "wide" p) (mLoc 6) := fun p => SE_loc (by rw [hN]; rfl) O.kind (by rw [hE]; rfl) O.locals rfl
  have X_at : Φ.names[3]? = some ("at" : Str) := by rw [hN]; rfl
  have K_at : Φ.env.kindOf ("at" : Str) = some .local := by rw [hE]; rfl
  have T_at : IsTG Φ (.loc 3) "at" := .loc X_at K_at
  have X_found : Φ.names[2]? = some ("found" : Str) := by rw [hN]; rfl
  have K_found : Φ.env.kindOf ("found" : Str) = some .local := by rw [hE]; rfl
  have T_found : IsTG Φ (.loc 2) "found" := .loc X_found K_found
  have X_marks : Φ.names[5]? = some ("marks" : Str) := by rw [hN]; rfl
  have K_marks : Φ.env.kindOf ("marks" : Str) = some .local := by rw [hE]; rfl
  have T_marks : IsTG Φ (.loc 5) "marks" := .loc X_marks K_marks
  have X_thing : Φ.names[4]? = some ("thing" : Str) := by rw [hN]; rfl
  have K_thing : Φ.env.kindOf ("thing" : Str) = some .local := by rw [hE]; rfl
  have T_thing : IsTG Φ (.loc 4) "thing" := .loc X_thing K_thing
  have X_wide : Φ.names[6]? = some ("wide" : Str) := by rw [hN]; rfl
  have K_wide : Φ.env.kindOf ("wide" : Str) = some .local := by rw [hE]; rfl
  have T_wide : IsTG Φ (.loc 6) "wide" := .loc X_wide K_wide
  exact SXs.sb (SXs_cons (SX_asgT O (SE_tup (SEs_arg (SE_call O (N_bytearray _) .ty SEs_nil rfl (fun _ _ _ _ _ _ r h => snd_barr O r h) rfl) (SEs_arg SE_int (SEs_arg SE_int (SEs_arg SE_int SEs_nil rfl) rfl) rfl) rfl)) (.name T_found (.name T_at (.name T_thing (.name T_marks .nil)))) rfl rfl rfl rfl (by first | rfl | (rw [hE]; rfl) | (rw [hE]; with_unfolding_all rfl))) (SXs_cons (SX_while (fun _ => 5000) (ST_cmp (SE_call O (N_len _) .bi (SEs_arg (L_found _) SEs_nil rfl) rfl (fun _ _ _ _ _ _ r h => snd_len O r h) rfl) (L_size _) rfl) (SXs_cons (SX_if (ST_cmp (L_thing _) SE_int rfl) (SXs_cons (SX_if (ST_cmp (L_at _) (SE_call O (N_len _) .bi (SEs_arg (L_octets _) SEs_nil rfl) rfl (fun _ _ _ _ _ _ r h => snd_len O r h) rfl) rfl) (SXs_cons (SX_raise O hF (kx P hK) (by rw [hE]; rfl)) SXs_nil) SXs_nil) (SXs_cons (SX_asg O (SE_sub O (L_octets _) (L_at _) (fun _ _ => rfl)) X_marks K_marks rfl) (SXs_cons (SX_asg O (SE_bin (L_at _) SE_int) X_at K_at rfl) SXs_nil))) SXs_nil) (SXs_cons (SX_asg O (SE_bin SE_int (SE_bin (SE_bin (L_marks _) (L_thing _)) SE_int)) X_wide K_wide rfl) (SXs_cons (SX_if (ST_cmp (SE_bin (L_at _) (L_wide _)) (SE_call O (N_len _) .bi (SEs_arg (L_octets _) SEs_nil rfl) rfl (fun _ _ _ _ _ _ r h => snd_len O r h) rfl) rfl) (SXs_cons (SX_raise O hF (kx P hK) (by rw [hE]; rfl)) SXs_nil) SXs_nil) (SXs_cons (SX_if (ST_cmp (L_wide _) SE_int rfl) (SXs_cons (SX_drop (SE_call O (N_copied _) (C_copied) (SEs_arg (L_found _) (SEs_arg (SE_bin (SE_bin (SE_sub O (L_octets _) (L_at _) (fun _ _ => rfl)) SE_int) (G_LEAST_MATCH _)) (SEs_arg (SE_bin (SE_bin (SE_bin (SE_sub O (L_octets _) (L_at _) (fun _ _ => rfl)) SE_int) SE_int) (SE_sub O (L_octets _) (SE_bin (L_at _) SE_int) (fun _ _ => rfl))) (SEs_arg (L_size _) SEs_nil rfl) rfl) rfl) rfl) rfl (fun _ _ _ _ _ _ r h => H_copied r h) rfl) (exec_Expr _ _ _ (by rw [hE]; rfl) rfl)) SXs_nil) (SXs_cons (SX_drop (SE_meth O (L_found _) (SEs_arg (SE_sub O (L_octets _) (L_at _) (fun _ _ => rfl)) SEs_nil rfl) rfl rfl rfl rfl pa_bytearray sl_bytearray_append ty_bytearray_append ht_isBarrC (fun _ _ _ _ _ _ _ _ r hv h => snd_bappend O r hv h)) (exec_Expr _ _ _ (by rw [hE]; rfl) rfl)) SXs_nil)) (SXs_cons (SX_asg O (SE_bin (L_at _) (L_wide _)) X_at K_at rfl) (SXs_cons (SX_asg O (SE_bin (SE_bin (L_thing _) SE_int) (G_THINGS _)) X_thing K_thing rfl) SXs_nil))))))) (SXs_cons (SX_ret O (SE_call O (N_bytes _) .ty (SEs_arg (L_found _) SEs_nil rfl) rfl (fun _ _ _ _ _ _ r h => snd_bytes O r h) rfl)) SXs_nil)))
theorem c_lzjb_unpack (P : Params) {prog : Program} {Φ : Act} {lv : Nat} (hK : Φ.K = KK P) (O : Ok prog Φ (lv + 2)) (hF : OkF Φ) {σ : List Addr} {imm : List (Addr × Obj)} {st : St} {s : Shared} {vs : List V} {xs : List Value} (r : Rel prog Φ σ imm st s) (h : VRs (kno imm Φ.Hk) σ vs xs) : Snd prog Φ VR (PySem.call (.ref 95) xs) (f_lzjb_unpack vs st) σ imm s :=
  snd_call (pass := false) (d := d_lzjb_unpack) O (k_lzjb_unpack P hK) (by decide) (fun Ψ q1 q2 q3 q4 q5 q6 => b_lzjb_unpack P (q1.trans hK) q2 q3 q4 q5) r h (.inl hF)
theorem k0_law_octets (P : Params) : FnK (KK P) 100 (fdOf (KK P) 100) (["script"] : List Str) (["found", "number", "way", "begin"] : List Str) (["many"] : List Str) (bodyOf (fdOf (KK P) 100)) where
  look := ⟨_, rfl, rfl⟩
  code := ⟨_, _, _, _, rfl, rfl, rfl, rfl⟩
  body := rfl
  bind := fun xs h => by
    obtain ⟨x0, rfl⟩ := len1 h
    rfl
  clo := rfl
  co := rfl
  gen := rfl
  kind := rfl
  glob := rfl
  bi := rfl
  nod := by decide +kernel
  loc := fun x hx => loc_of rfl x hx
  cells := fun n => rfl
  bx1 := by decide
theorem k_law_octets (P : Params) {K : Frag} (hK : K = KK P) : FnK K 100 (fdOf (KK P) 100) (["script"] : List Str) (["found", "number", "way", "begin"] : List Str) (["many"] : List Str) (bodyOf (fdOf (KK P) 100)) := by
  subst hK
  exact k0_law_octets P
theorem b_law_octets (P : Params) {prog : Program} {Φ : Act} {lv : Nat} (hK : Φ.K = KK P) (O : Ok prog Φ (lv + 0)) (hF : OkF Φ) (hN : Φ.names = (["script", "found", "number", "way", "begin"] : List Str)) (hE : Φ.env = callEnvC (fdOf (KK P) 100) Φ.L 100) (hS : Φ.sig0 = [Φ.L + 1]) : SB prog Φ (bodyOf (fdOf (KK P) 100)) d_law_octets := by
  have C_many : Φ.env.cells.lookup ("many" : Str) = some (Φ.L + 1) := by rw [hE]; rfl
  have S_many : Φ.sig0[0]? = some (Φ.L + 1) := by rw [hS]; rfl
  have B_many : ∀ p, SE prog Φ (.Name "many" p) (mBox 0) := fun p => SE_box O (.inl (by rw [hE]; rfl)) C_many S_many rfl rfl
  have N_abs : ∀ p, SN prog Φ (.Name "abs" p) (.builtin "abs") := fun p => SN_boot O (by rw [hK]; rfl) boot_abs (by decide +kernel) (by rw [hE]; rfl) rfl
  have N_bytes : ∀ p, SN prog Φ (.Name "bytes" p) (.type "bytes") := fun p => SN_boot O (by rw [hK]; rfl) boot_bytes (by decide +kernel) (by rw [hE]; rfl) rfl
  have N_len : ∀ p, SN prog Φ (.Name "len" p) (.builtin "len") := fun p => SN_boot O (by rw [hK]; rfl) boot_len (by decide +kernel) (by rw [hE]; rfl) rfl
  have N_range : ∀ p, SN prog Φ (.Name "range" p) (.type "range") := fun p => SN_boot O (by rw [hK]; rfl) boot_range (by decide +kernel) (by rw [hE]; rfl) rfl
  have L_begin : ∀ p, SE prog Φ (.Name "begin" p) (mLoc 4) := fun p => SE_loc (by rw [hN]; rfl) O.kind (by rw [hE]; rfl) O.locals rfl
  have L_found : ∀ p, SE prog Φ (.Name "found" p) (mLoc 1) := fun p => SE_loc (by rw [hN]; rfl) O.kind (by rw [hE]; rfl) O.locals rfl
  have L_number : ∀ p, SE prog Φ (.Name "number" p) (mLoc 2) := fun p => SE_loc (by rw [hN]; rfl) O.kind (by rw [hE]; rfl) O.locals rfl
  have L_script : ∀ p, SE prog Φ (.Name "script" p) (mLoc 0) := fun p => SE_loc (by rw [hN]; rfl) O.kind (by rw [hE]; rfl) O.locals rfl
  have L_way : ∀ p, SE prog Φ (.Name "way" p) (mLoc 3) := fun p => SE_loc (by rw [hN]; rfl) O.kind (by rw [hE]; rfl) O.locals rfl
  have X_begin : Φ.names[4]? = some ("begin" : Str) := by rw [hN]; rfl
  have K_begin : Φ.env.kindOf ("begin" : Str) = some .local := by rw [hE]; rfl
  have T_begin : IsTG Φ (.loc 4) "begin" := .loc X_begin K_begin
  have X_found : Φ.names[1]? = some ("found" : Str) := by rw [hN]; rfl
  have K_found : Φ.env.kindOf ("found" : Str) = some .local := by rw [hE]; rfl
  have T_found : IsTG Φ (.loc 1) "found" := .loc X_found K_found
  have T_many : IsTG Φ (.box 0) "many" := .box (by rw [hE]; rfl) C_many S_many
  have X_number : Φ.names[2]? = some ("number" : Str) := by rw [hN]; rfl
  have K_number : Φ.env.kindOf ("number" : Str) = some .local := by rw [hE]; rfl
  have T_number : IsTG Φ (.loc 2) "number" := .loc X_number K_number
  have X_way : Φ.names[3]? = some ("way" : Str) := by rw [hN]; rfl
  have K_way : Φ.env.kindOf ("way" : Str) = some .local := by rw [hE]; rfl
  have T_way : IsTG Φ (.loc 3) "way" := .loc X_way K_way
  exact SXs.sb (SXs_cons (SX_asg O SE_bytes X_found K_found rfl) (SXs_cons (SX_for O (SE_slice (L_script _) SEo_none (SEo_some SE_int)) (SA_name O T_number) (SXs_cons (SX_asgT O (SE_tup (SEs_arg (SE_bin (SE_call O (N_abs _) .bi (SEs_arg (L_number _) SEs_nil rfl) rfl (fun _ _ _ _ _ _ r h => snd_abs O r h) rfl) SE_int) (SEs_arg (SE_bin (SE_call O (N_abs _) .bi (SEs_arg (L_number _) SEs_nil rfl) rfl (fun _ _ _ _ _ _ r h => snd_abs O r h) rfl) SE_int) SEs_nil rfl) rfl)) (.name T_way (.name T_many .nil)) rfl rfl rfl rfl (by first | rfl | (rw [hE]; rfl) | (rw [hE]; with_unfolding_all rfl))) (SXs_cons (SX_if (ST_cmp (L_way _) SE_int rfl) (SXs_cons (SX_asg O (SE_bin (L_found _) (SE_call O (N_bytes _) .ty (SEs_arg (SE_comp (names := ["k"]) O (SE_call O (N_range _) .ty (SEs_arg (SE_bin (SE_bin (B_many _) SE_int) SE_int) SEs_nil rfl) rfl (fun _ _ _ _ _ _ r h => snd_range O r h) rfl) (fun _ => rfl) (by first | exact rfl | (rw [hE]; rfl)) (by intro y hy; revert y hy; decide +kernel) rfl (by intro y hy hl; revert y hy hl; decide +kernel) (by decide +kernel) (fun C m sig hsig O => by
      have B_many : ∀ p, SE prog _ (.Name "many" p) (mBox 0) := fun p => SE_box O (.inl (by show Env.kindOf (compEnvC _ _ _ Φ.env) _ = _; rw [hE]; rfl)) rfl (pre_get hsig S_many) rfl rfl
      have L_k : ∀ p, SE prog _ (.Name "k" p) (mLoc 0) := fun p => SE_loc rfl O.kind rfl O.locals rfl
      exact ⟨(SA_name O (.loc rfl rfl)), STif_nil, (SE_bin (SE_bin (B_many _) (SE_bin (L_k _) SE_int)) SE_int)⟩)) SEs_nil rfl) rfl (fun _ _ _ _ _ _ r h => snd_bytes O r h) rfl)) X_found K_found rfl) SXs_nil) (SXs_cons (SX_if (ST_bool (STs_and (ST_cmp (L_way _) SE_int rfl) (STs_and (ST_cmp (L_found _) SE_bytes rfl) STs_nil))) (SXs_cons (SX_asg O (SE_bin (B_many _) (SE_call O (N_len _) .bi (SEs_arg (L_found _) SEs_nil rfl) rfl (fun _ _ _ _ _ _ r h => snd_len O r h) rfl)) X_begin K_begin rfl) (SXs_cons (SX_asg O (SE_bin (L_found _) (SE_slice (L_found _) (SEo_some (L_begin _)) (SEo_some (SE_bin (SE_bin (L_begin _) SE_int) (SE_bin (SE_bin (B_many _) SE_int) SE_int))))) X_found K_found rfl) SXs_nil)) (SXs_cons (SX_asg O (SE_bin (L_found _) (SE_bin (SE_call O (N_bytes _) .ty (SEs_arg (SE_lst (SEs_arg (SE_bin (B_many _) SE_int) SEs_nil rfl)) SEs_nil rfl) rfl (fun _ _ _ _ _ _ r h => snd_bytes O r h) rfl) (SE_bin (SE_bin (B_many _) SE_int) SE_int))) X_found K_found rfl) SXs_nil)) SXs_nil)) SXs_nil)) (fun _ => rfl)) (SXs_cons (SX_ret O (SE_slice (L_found _) SEo_none (SEo_some SE_int))) SXs_nil)))
theorem c_law_octets (P : Params) {prog : Program} {Φ : Act} {lv : Nat} (hK : Φ.K = KK P) (O : Ok prog Φ (lv + 1)) (hF : OkF Φ) {σ : List Addr} {imm : List (Addr × Obj)} {st : St} {s : Shared} {vs : List V} {xs : List Value} (r : Rel prog Φ σ imm st s) (h : VRs (kno imm Φ.Hk) σ vs xs) : Snd prog Φ VR (PySem.call (.ref 100) xs) (f_law_octets vs st) σ imm s :=
  snd_call (pass := false) (d := d_law_octets) O (k_law_octets P hK) (by decide) (fun Ψ q1 q2 q3 q4 q5 q6 => b_law_octets P (q1.trans hK) q2 q3 q4 q5 (q6 rfl)) r h (.inl hF)
theorem k0_law_read (P : Params) : FnK (KK P) 107 (fdOf (KK P) 107) (["octets", "size"] : List Str) (["found", "things", "at", "marks", "bit", "is_match", "some", "many", "ago", "k"] : List Str) ([] : List Str) (bodyOf (fdOf (KK P) 107)) where
  look := ⟨_, rfl, rfl⟩
  code := ⟨_, _, _, _, rfl, rfl, rfl, rfl⟩
  body := rfl
  bind := fun xs h => by
    obtain ⟨x0, x1, rfl⟩ := len2 h
    rfl
  clo := rfl
  co := rfl
  gen := rfl
  kind := rfl
  glob := rfl
  bi := rfl
  nod := by decide +kernel
  loc := fun x hx => loc_of rfl x hx
  cells := fun n => rfl
  bx1 := by decide
theorem k_law_read (P : Params) {K : Frag} (hK : K = KK P) : FnK K 107 (fdOf (KK P) 107) (["octets", "size"] : List Str) (["found", "things", "at", "marks", "bit", "is_match", "some", "many", "ago", "k"] : List Str) ([] : List Str) (bodyOf (fdOf (KK P) 107)) := by
  subst hK
  exact k0_law_read P
theorem b_law_read (P : Params) {prog : Program} {Φ : Act} {lv : Nat} (hK : Φ.K = KK P) (O : Ok prog Φ (lv + 0)) (hF : OkF Φ) (hN : Φ.names = (["octets", "size", "found", "things", "at", "marks", "bit", "is_match", "some", "many", "ago", "k"] : List Str)) (hE : Φ.env = callEnvC (fdOf (KK P) 107) Φ.L 107) : SB prog Φ (bodyOf (fdOf (KK P) 107)) d_law_read := by
  have N_bytes : ∀ p, SN prog Φ (.Name "bytes" p) (.type "bytes") := fun p => SN_boot O (by rw [hK]; rfl) boot_bytes (by decide +kernel) (by rw [hE]; rfl) rfl
  have N_int : ∀ p, SN prog Φ (.Name "int" p) (.type "int") := fun p => SN_boot O (by rw [hK]; rfl) boot_int (by decide +kernel) (by rw [hE]; rfl) rfl
  have N_len : ∀ p, SN prog Φ (.Name "len" p) (.builtin "len") := fun p => SN_boot O (by rw [hK]; rfl) boot_len (by decide +kernel) (by rw [hE]; rfl) rfl
  have N_range : ∀ p, SN prog Φ (.Name "range" p) (.type "range") := fun p => SN_boot O (by rw [hK]; rfl) boot_range (by decide +kernel) (by rw [hE]; rfl) rfl
  have L_ago : ∀ p, SE prog Φ (.Name "ago" p) (mLoc 10) := fun p => SE_loc (by rw [hN]; rfl) O.kind (by rw [hE]; rfl) O.locals rfl
  have L_at : ∀ p, SE prog Φ (.Name "at" p) (mLoc 4) := fun p => SE_loc (by rw [hN]; rfl) O.kind (by rw [hE]; rfl) O.locals rfl
  have L_bit : ∀ p, SE prog Φ (.Name "bit" p) (mLoc 6) := fun p => SE_loc (by rw [hN]; rfl) O.kind (by rw [hE]; rfl) O.locals rfl
  have L_found : ∀ p, SE prog Φ (.Name "found" p) (mLoc 2) := fun p => SE_loc (by rw [hN]; rfl) O.kind (by rw [hE]; rfl) O.locals rfl
  have L_is_match : ∀ p, SE prog Φ (.Name "is_match" p) (mLoc 7) := fun p => SE_loc (by rw [hN]; rfl) O.kind (by rw [hE]; rfl) O.locals rfl
  have L_many : ∀ p, SE prog Φ (.Name "many" p) (mLoc 9) := fun p => SE_loc (by rw [hN]; rfl) O.kind (by rw [hE]; rfl) O.locals rfl
  have L_marks : ∀ p, SE prog Φ (.Name "marks" p) (mLoc 5) := fun p => SE_loc (by rw [hN]; rfl) O.kind (by rw [hE]; rfl) O.locals rfl
  have L_octets : ∀ p, SE prog Φ (.Name "octets" p) (mLoc 0) := fun p => SE_loc (by rw [hN]; rfl) O.kind (by rw [hE]; rfl) O.locals rfl
  have L_size : ∀ p, SE prog Φ (.Name "size" p) (mLoc 1) := fun p => SE_loc (by rw [hN]; rfl) O.kind (by rw [hE]; rfl) O.locals rfl
  have L_some : ∀ p, SE prog Φ (.Name "some" p) (mLoc 8) := fun p => SE_loc (by rw [hN]; rfl) O.kind (by rw [hE]; rfl) O.locals rfl
  have L_things : ∀ p, SE prog Φ (.Name "things" p) (mLoc 3) := fun p => SE_loc (by rw [hN]; rfl) O.kind (by rw [hE]; rfl) O.locals rfl
  have X_ago : Φ.names[10]? = some ("ago" : Str) := by rw [hN]; rfl
  have K_ago : Φ.env.kindOf ("ago" : Str) = some .local := by rw [hE]; rfl
  have T_ago : IsTG Φ (.loc 10) "ago" := .loc X_ago K_ago
  have X_at : Φ.names[4]? = some ("at" : Str) := by rw [hN]; rfl
  have K_at : Φ.env.kindOf ("at" : Str) = some .local := by rw [hE]; rfl
  have T_at : IsTG Φ (.loc 4) "at" := .loc X_at K_at
  have X_bit : Φ.names[6]? = some ("bit" : Str) := by rw [hN]; rfl
  have K_bit : Φ.env.kindOf ("bit" : Str) = some .local := by rw [hE]; rfl
  have T_bit : IsTG Φ (.loc 6) "bit" := .loc X_bit K_bit
  have X_found : Φ.names[2]? = some ("found" : Str) := by rw [hN]; rfl
  have K_found : Φ.env.kindOf ("found" : Str) = some .local := by rw [hE]; rfl
  have T_found : IsTG Φ (.loc 2) "found" := .loc X_found K_found
  have X_is_match : Φ.names[7]? = some ("is_match" : Str) := by rw [hN]; rfl
  have K_is_match : Φ.env.kindOf ("is_match" : Str) = some .local := by rw [hE]; rfl
  have T_is_match : IsTG Φ (.loc 7) "is_match" := .loc X_is_match K_is_match
  have X_k : Φ.names[11]? = some ("k" : Str) := by rw [hN]; rfl
  have K_k : Φ.env.kindOf ("k" : Str) = some .local := by rw [hE]; rfl
  have T_k : IsTG Φ (.loc 11) "k" := .loc X_k K_k
  have X_many : Φ.names[9]? = some ("many" : Str) := by rw [hN]; rfl
  have K_many : Φ.env.kindOf ("many" : Str) = some .local := by rw [hE]; rfl
  have T_many : IsTG Φ (.loc 9) "many" := .loc X_many K_many
  have X_marks : Φ.names[5]? = some ("marks" : Str) := by rw [hN]; rfl
  have K_marks : Φ.env.kindOf ("marks" : Str) = some .local := by rw [hE]; rfl
  have T_marks : IsTG Φ (.loc 5) "marks" := .loc X_marks K_marks
  have X_some : Φ.names[8]? = some ("some" : Str) := by rw [hN]; rfl
  have K_some : Φ.env.kindOf ("some" : Str) = some .local := by rw [hE]; rfl
  have T_some : IsTG Φ (.loc 8) "some" := .loc X_some K_some
  have X_things : Φ.names[3]? = some ("things" : Str) := by rw [hN]; rfl
  have K_things : Φ.env.kindOf ("things" : Str) = some .local := by rw [hE]; rfl
  have T_things : IsTG Φ (.loc 3) "things" := .loc X_things K_things
  exact SXs.sb (SXs_cons (SX_asgS (xs := ["found", "things", "at"]) O (SE_tup (SEs_arg (SE_lstC SEs_nil) (SEs_arg (SE_lstC SEs_nil) (SEs_arg SE_int SEs_nil rfl) rfl) rfl)) (.bind T_at (.bind T_things (.bind T_found .nil))) rfl rfl (by first | rfl | (rw [hE]; rfl) | (rw [hE]; with_unfolding_all rfl))) (SXs_cons (SX_while (fun _ => 5000) (ST_cmp (SE_call O (N_len _) .bi (SEs_arg (L_found _) SEs_nil rfl) rfl (fun _ _ _ _ _ _ r h => snd_len O r h) rfl) (L_size _) rfl) (SXs_cons (SX_if (ST_cmp (SE_slice (L_octets _) (SEo_some (L_at _)) (SEo_some (SE_bin (L_at _) SE_int))) SE_bytes rfl) (SXs_cons (SX_ret O (SE_tup (SEs_arg SE_none (SEs_arg (SE_lst SEs_nil) (SEs_arg (L_at _) SEs_nil rfl) rfl) rfl))) SXs_nil) SXs_nil) (SXs_cons (SX_asg O (SE_sub O (L_octets _) (L_at _) (fun _ _ => rfl)) X_marks K_marks rfl) (SXs_cons (SX_asg O (SE_bin (L_at _) SE_int) X_at K_at rfl) (SXs_cons (SX_for O (SE_call O (N_range _) .ty (SEs_arg SE_int SEs_nil rfl) rfl (fun _ _ _ _ _ _ r h => snd_range O r h) rfl) (SA_name O T_bit) (SXs_cons (SX_if (ST_cmp (SE_call O (N_len _) .bi (SEs_arg (L_found _) SEs_nil rfl) rfl (fun _ _ _ _ _ _ r h => snd_len O r h) rfl) (L_size _) rfl) (SXs_cons (SX_asg O (SE_cmp (SE_bin (SE_bin (L_marks _) (SE_bin SE_int (L_bit _))) SE_int) SE_int rfl) X_is_match K_is_match rfl) (SXs_cons (SX_asg O (SE_slice (L_octets _) (SEo_some (L_at _)) (SEo_some (SE_bin (SE_bin (L_at _) SE_int) (SE_call O (N_int _) .ty (SEs_arg (L_is_match _) SEs_nil rfl) rfl (fun _ _ _ _ _ _ r h => snd_int O r h) rfl)))) X_some K_some rfl) (SXs_cons (SX_if (ST_cmp (SE_call O (N_len _) .bi (SEs_arg (L_some _) SEs_nil rfl) rfl (fun _ _ _ _ _ _ r h => snd_len O r h) rfl) (SE_bin SE_int (SE_call O (N_int _) .ty (SEs_arg (L_is_match _) SEs_nil rfl) rfl (fun _ _ _ _ _ _ r h => snd_int O r h) rfl)) rfl) (SXs_cons (SX_ret O (SE_tup (SEs_arg SE_none (SEs_arg (SE_lst SEs_nil) (SEs_arg (L_at _) SEs_nil rfl) rfl) rfl))) SXs_nil) SXs_nil) (SXs_cons (SX_asg O (SE_bin (L_at _) (SE_call O (N_len _) .bi (SEs_arg (L_some _) SEs_nil rfl) rfl (fun _ _ _ _ _ _ r h => snd_len O r h) rfl)) X_at K_at rfl) (SXs_cons (SX_if (ST_not (ST_val (L_is_match _) (fun _ => rfl))) (SXs_cons (SX_drop (SE_meth O (L_things _) (SEs_arg (SE_tup (SEs_arg (SE_call O (N_len _) .bi (SEs_arg (L_found _) SEs_nil rfl) rfl (fun _ _ _ _ _ _ r h => snd_len O r h) rfl) (SEs_arg SE_int (SEs_arg SE_int SEs_nil rfl) rfl) rfl)) SEs_nil rfl) rfl rfl rfl rfl pa_list sl_list_append ty_list_append ht_isListC (fun _ _ _ _ _ _ _ _ r hv h => snd_append O r hv h)) (exec_Expr _ _ _ (by rw [hE]; rfl) rfl)) (SXs_cons (SX_drop (SE_meth O (L_found _) (SEs_arg (SE_sub O (L_some _) SE_int (fun _ _ => rfl)) SEs_nil rfl) rfl rfl rfl rfl pa_list sl_list_append ty_list_append ht_isListC (fun _ _ _ _ _ _ _ _ r hv h => snd_append O r hv h)) (exec_Expr _ _ _ (by rw [hE]; rfl) rfl)) SXs_nil)) (SXs_cons (SX_asgS (xs := ["many", "ago"]) O (SE_tup (SEs_arg (SE_bin (SE_bin (SE_sub O (L_some _) SE_int (fun _ _ => rfl)) SE_int) SE_int) (SEs_arg (SE_bin (SE_bin (SE_bin (SE_sub O (L_some _) SE_int (fun _ _ => rfl)) SE_int) SE_int) (SE_sub O (L_some _) SE_int (fun _ _ => rfl))) SEs_nil rfl) rfl)) (.bind T_ago (.bind T_many .nil)) rfl rfl (by first | rfl | (rw [hE]; rfl) | (rw [hE]; with_unfolding_all rfl))) (SXs_cons (SX_if (ST_bool (STs_or (ST_cmp (L_ago _) SE_int rfl) (STs_or (ST_cmp (L_ago _) (SE_call O (N_len _) .bi (SEs_arg (L_found _) SEs_nil rfl) rfl (fun _ _ _ _ _ _ r h => snd_len O r h) rfl) rfl) STs_nil))) (SXs_cons (SX_ret O (SE_tup (SEs_arg SE_none (SEs_arg (SE_lst SEs_nil) (SEs_arg (L_at _) SEs_nil rfl) rfl) rfl))) SXs_nil) SXs_nil) (SXs_cons (SX_drop (SE_meth O (L_things _) (SEs_arg (SE_tup (SEs_arg (SE_call O (N_len _) .bi (SEs_arg (L_found _) SEs_nil rfl) rfl (fun _ _ _ _ _ _ r h => snd_len O r h) rfl) (SEs_arg (L_many _) (SEs_arg (L_ago _) SEs_nil rfl) rfl) rfl)) SEs_nil rfl) rfl rfl rfl rfl pa_list sl_list_append ty_list_append ht_isListC (fun _ _ _ _ _ _ _ _ r hv h => snd_append O r hv h)) (exec_Expr _ _ _ (by rw [hE]; rfl) rfl)) (SXs_cons (SX_for O (SE_call O (N_range _) .ty (SEs_arg (L_many _) SEs_nil rfl) rfl (fun _ _ _ _ _ _ r h => snd_range O r h) rfl) (SA_name O T_k) (SXs_cons (SX_drop (SE_meth O (L_found _) (SEs_arg (SE_sub O (L_found _) (SE_neg (L_ago _)) (fun _ _ => rfl)) SEs_nil rfl) rfl rfl rfl rfl pa_list sl_list_append ty_list_append ht_isListC (fun _ _ _ _ _ _ _ _ r hv h => snd_append O r hv h)) (exec_Expr _ _ _ (by rw [hE]; rfl) rfl)) SXs_nil) (fun _ => rfl)) SXs_nil))))) SXs_nil))))) (SXs_cons (SX_if (ST_cmp (SE_bin (L_marks _) (SE_bin SE_int (L_bit _))) SE_int rfl) (SXs_cons (SX_drop (SE_meth O (L_things _) (SEs_arg (SE_tup (SEs_arg SE_int (SEs_arg SE_int (SEs_arg SE_int SEs_nil rfl) rfl) rfl)) SEs_nil rfl) rfl rfl rfl rfl pa_list sl_list_append ty_list_append ht_isListC (fun _ _ _ _ _ _ _ _ r hv h => snd_append O r hv h)) (exec_Expr _ _ _ (by rw [hE]; rfl) rfl)) SXs_nil) SXs_nil) SXs_nil)) SXs_nil) (fun _ => rfl)) SXs_nil))))) (SXs_cons (SX_ret O (SE_tup (SEs_arg (SE_call O (N_bytes _) .ty (SEs_arg (SE_slice (L_found _) SEo_none (SEo_some (L_size _))) SEs_nil rfl) rfl (fun _ _ _ _ _ _ r h => snd_bytes O r h) rfl) (SEs_arg (L_things _) (SEs_arg (L_at _) SEs_nil rfl) rfl) rfl))) SXs_nil)))
theorem c_law_read (P : Params) {prog : Program} {Φ : Act} {lv : Nat} (hK : Φ.K = KK P) (O : Ok prog Φ (lv + 1)) (hF : OkF Φ) {σ : List Addr} {imm : List (Addr × Obj)} {st : St} {s : Shared} {vs : List V} {xs : List Value} (r : Rel prog Φ σ imm st s) (h : VRs (kno imm Φ.Hk) σ vs xs) : Snd prog Φ VR (PySem.call (.ref 107) xs) (f_law_read vs st) σ imm s :=
  snd_call (pass := false) (d := d_law_read) O (k_law_read P hK) (by decide) (fun Ψ q1 q2 q3 q4 q5 q6 => b_law_read P (q1.trans hK) q2 q3 q4 q5) r h (.inl hF)
theorem n_law_read (P : Params) {prog : Program} {Φ : Act} {lv : Nat} (hK : Φ.K = KK P) (O : Ok prog Φ (lv + 1)) {σ : List Addr} {imm : List (Addr × Obj)} {st : St} {s : Shared} {vs : List V} {xs : List Value} (r : Rel prog Φ σ imm st s) (h : VRs (kno imm Φ.Hk) σ vs xs) : Snd prog Φ VR (PySem.call (.ref 107) xs) ((f_law_read vs st).noExc) σ imm s :=
  snd_noExc fun hx => snd_call (pass := false) (d := d_law_read) O (k_law_read P hK) (by decide) (fun Ψ q1 q2 q3 q4 q5 q6 => b_law_read P (q1.trans hK) q2 q3 q4 q5) r h (.inr hx)
theorem k0_law_heard (P : Params) : FnK (KK P) 114 (fdOf (KK P) 114) (["octets", "size"] : List Str) ([] : List Str) ([] : List Str) (bodyOf (fdOf (KK P) 114)) where
  look := ⟨_, rfl, rfl⟩
  code := ⟨_, _, _, _, rfl, rfl, rfl, rfl⟩
  body := rfl
  bind := fun xs h => by
    obtain ⟨x0, x1, rfl⟩ := len2 h
    rfl
  clo := rfl
  co := rfl
  gen := rfl
  kind := rfl
  glob := rfl
  bi := rfl
  nod := by decide +kernel
  loc := fun x hx => loc_of rfl x hx
  cells := fun n => rfl
  bx1 := by decide
theorem k_law_heard (P : Params) {K : Frag} (hK : K = KK P) : FnK K 114 (fdOf (KK P) 114) (["octets", "size"] : List Str) ([] : List Str) ([] : List Str) (bodyOf (fdOf (KK P) 114)) := by
  subst hK
  exact k0_law_heard P
theorem b_law_heard (P : Params) {prog : Program} {Φ : Act} {lv : Nat} (hK : Φ.K = KK P) (O : Ok prog Φ (lv + 2)) (hF : OkF Φ) (hN : Φ.names = (["octets", "size"] : List Str)) (hE : Φ.env = callEnvC (fdOf (KK P) 114) Φ.L 114) : SB prog Φ (bodyOf (fdOf (KK P) 114)) d_law_heard := by
  have C_lzjb_unpack : Callee Φ.K (.ref 95) := by rw [hK]; exact .fn (k_lzjb_unpack P rfl).look.choose_spec.1 (k_lzjb_unpack P rfl).look.choose_spec.2
  have H_lzjb_unpack : ∀ {σ : List Addr} {imm : List (Addr × Obj)} {st : St} {s : Shared} {vs : List V} {xs : List Value}, Rel prog Φ σ imm st s → VRs (kno imm Φ.Hk) σ vs xs → Snd prog Φ VR (PySem.call (.ref 95) xs) (f_lzjb_unpack vs st) σ imm s := fun r h => c_lzjb_unpack P hK O hF r h
  have N_lzjb_unpack : ∀ p, SN prog Φ (.Name "lzjb_unpack" p) (.ref 95) := fun p => SN_glob O (by rw [hK]; rfl) (by rw [hE]; rfl) rfl
  have L_octets : ∀ p, SE prog Φ (.Name "octets" p) (mLoc 0) := fun p => SE_loc (by rw [hN]; rfl) O.kind (by rw [hE]; rfl) O.locals rfl
  have L_size : ∀ p, SE prog Φ (.Name "size" p) (mLoc 1) := fun p => SE_loc (by rw [hN]; rfl) O.kind (by rw [hE]; rfl) O.locals rfl
  exact SB_tryNone O hF (kx P hK) (by rw [hE]; rfl) (SE_call O (N_lzjb_unpack _) (C_lzjb_unpack) (SEs_arg (L_octets _) (SEs_arg (L_size _) SEs_nil rfl) rfl) rfl (fun _ _ _ _ _ _ r h => H_lzjb_unpack r h) rfl)
theorem c_law_heard (P : Params) {prog : Program} {Φ : Act} {lv : Nat} (hK : Φ.K = KK P) (O : Ok prog Φ (lv + 3)) (hF : OkF Φ) {σ : List Addr} {imm : List (Addr × Obj)} {st : St} {s : Shared} {vs : List V} {xs : List Value} (r : Rel prog Φ σ imm st s) (h : VRs (kno imm Φ.Hk) σ vs xs) : Snd prog Φ VR (PySem.call (.ref 114) xs) (f_law_heard vs st) σ imm s :=
  snd_call (pass := false) (d := d_law_heard) O (k_law_heard P hK) (by decide) (fun Ψ q1 q2 q3 q4 q5 q6 => b_law_heard P (q1.trans hK) q2 q3 q4 q5) r h (.inl hF)
theorem n_law_heard (P : Params) {prog : Program} {Φ : Act} {lv : Nat} (hK : Φ.K = KK P) (O : Ok prog Φ (lv + 3)) {σ : List Addr} {imm : List (Addr × Obj)} {st : St} {s : Shared} {vs : List V} {xs : List Value} (r : Rel prog Φ σ imm st s) (h : VRs (kno imm Φ.Hk) σ vs xs) : Snd prog Φ VR (PySem.call (.ref 114) xs) ((f_law_heard vs st).noExc) σ imm s :=
  snd_noExc fun hx => snd_call (pass := false) (d := d_law_heard) O (k_law_heard P hK) (by decide) (fun Ψ q1 q2 q3 q4 q5 q6 => b_law_heard P (q1.trans hK) q2 q3 q4 q5) r h (.inr hx)
theorem k0_law_are_things (P : Params) : FnK (KK P) 121 (fdOf (KK P) 121) (["octets", "things"] : List Str) (["place", "many", "ago"] : List Str) ([] : List Str) (bodyOf (fdOf (KK P) 121)) where
  look := ⟨_, rfl, rfl⟩
  code := ⟨_, _, _, _, rfl, rfl, rfl, rfl⟩
  body := rfl
  bind := fun xs h => by
    obtain ⟨x0, x1, rfl⟩ := len2 h
    rfl
  clo := rfl
  co := rfl
  gen := rfl
  kind := rfl
  glob := rfl
  bi := rfl
  nod := by decide +kernel
  loc := fun x hx => loc_of rfl x hx
  cells := fun n => rfl
  bx1 := by decide
theorem k_law_are_things (P : Params) {K : Frag} (hK : K = KK P) : FnK K 121 (fdOf (KK P) 121) (["octets", "things"] : List Str) (["place", "many", "ago"] : List Str) ([] : List Str) (bodyOf (fdOf (KK P) 121)) := by
  subst hK
  exact k0_law_are_things P
theorem b_law_are_things (P : Params) {prog : Program} {Φ : Act} {lv : Nat} (hK : Φ.K = KK P) (O : Ok prog Φ (lv + 0)) (hF : OkF Φ) (hN : Φ.names = (["octets", "things", "place", "many", "ago"] : List Str)) (hE : Φ.env = callEnvC (fdOf (KK P) 121) Φ.L 121) : SB prog Φ (bodyOf (fdOf (KK P) 121)) d_law_are_things := by
  have N_len : ∀ p, SN prog Φ (.Name "len" p) (.builtin "len") := fun p => SN_boot O (by rw [hK]; rfl) boot_len (by decide +kernel) (by rw [hE]; rfl) rfl
  have L_ago : ∀ p, SE prog Φ (.Name "ago" p) (mLoc 4) := fun p => SE_loc (by rw [hN]; rfl) O.kind (by rw [hE]; rfl) O.locals rfl
  have L_many : ∀ p, SE prog Φ (.Name "many" p) (mLoc 3) := fun p => SE_loc (by rw [hN]; rfl) O.kind (by rw [hE]; rfl) O.locals rfl
  have L_octets : ∀ p, SE prog Φ (.Name "octets" p) (mLoc 0) := fun p => SE_loc (by rw [hN]; rfl) O.kind (by rw [hE]; rfl) O.locals rfl
  have L_place : ∀ p, SE prog Φ (.Name "place" p) (mLoc 2) := fun p => SE_loc (by rw [hN]; rfl) O.kind (by rw [hE]; rfl) O.locals rfl
  have L_things : ∀ p, SE prog Φ (.Name "things" p) (mLoc 1) := fun p => SE_loc (by rw [hN]; rfl) O.kind (by rw [hE]; rfl) O.locals rfl
  have X_ago : Φ.names[4]? = some ("ago" : Str) := by rw [hN]; rfl
  have K_ago : Φ.env.kindOf ("ago" : Str) = some .local := by rw [hE]; rfl
  have T_ago : IsTG Φ (.loc 4) "ago" := .loc X_ago K_ago
  have X_many : Φ.names[3]? = some ("many" : Str) := by rw [hN]; rfl
  have K_many : Φ.env.kindOf ("many" : Str) = some .local := by rw [hE]; rfl
  have T_many : IsTG Φ (.loc 3) "many" := .loc X_many K_many
  have X_place : Φ.names[2]? = some ("place" : Str) := by rw [hN]; rfl
  have K_place : Φ.env.kindOf ("place" : Str) = some .local := by rw [hE]; rfl
  have T_place : IsTG Φ (.loc 2) "place" := .loc X_place K_place
  exact SXs.sb (SXs_cons (SX_for O (L_things _) (SA_tup O (.name T_place (.name T_many (.name T_ago .nil))) rfl rfl rfl) (SXs_cons (SX_if (ST_bool (STs_or (ST_cmp (L_ago _) SE_int rfl) (STs_or (ST_bool (STs_and (ST_cmp (L_ago _) SE_int rfl) (STs_and (ST_cmp (SE_bin (L_place _) (L_many _)) (SE_call O (N_len _) .bi (SEs_arg (L_octets _) SEs_nil rfl) rfl (fun _ _ _ _ _ _ r h => snd_len O r h) rfl) rfl) STs_nil))) STs_nil))) (SXs_cons (SX_ret O SE_bool) SXs_nil) SXs_nil) (SXs_cons (SX_if (ST_bool (STs_and (ST_cmp (L_ago _) SE_int rfl) (STs_and (ST_cmp (L_many _) SE_int rfl) (STs_and (ST_cmp (SE_bin (L_place _) (L_many _)) (SE_call O (N_len _) .bi (SEs_arg (L_octets _) SEs_nil rfl) rfl (fun _ _ _ _ _ _ r h => snd_len O r h) rfl) rfl) (STs_and (ST_cmp (SE_sub O (L_octets _) (SE_bin (L_place _) (L_many _)) (fun _ _ => rfl)) (SE_sub O (L_octets _) (SE_bin (SE_bin (L_place _) (L_many _)) (L_ago _)) (fun _ _ => rfl)) rfl) STs_nil))))) (SXs_cons (SX_ret O SE_bool) SXs_nil) SXs_nil) SXs_nil)) (fun _ => rfl)) (SXs_cons (SX_ret O SE_bool) SXs_nil))
theorem c_law_are_things (P : Params) {prog : Program} {Φ : Act} {lv : Nat} (hK : Φ.K = KK P) (O : Ok prog Φ (lv + 1)) (hF : OkF Φ) {σ : List Addr} {imm : List (Addr × Obj)} {st : St} {s : Shared} {vs : List V} {xs : List Value} (r : Rel prog Φ σ imm st s) (h : VRs (kno imm Φ.Hk) σ vs xs) : Snd prog Φ VR (PySem.call (.ref 121) xs) (f_law_are_things vs st) σ imm s :=
  snd_call (pass := false) (d := d_law_are_things) O (k_law_are_things P hK) (by decide) (fun Ψ q1 q2 q3 q4 q5 q6 => b_law_are_things P (q1.trans hK) q2 q3 q4 q5) r h (.inl hF)
theorem k0_law_run (P : Params) : FnK (KK P) 128 (fdOf (KK P) 128) (["octet", "many"] : List Str) (["things", "left", "ago", "more"] : List Str) ([] : List Str) (bodyOf (fdOf (KK P) 128)) where
  look := ⟨_, rfl, rfl⟩
  code := ⟨_, _, _, _, rfl, rfl, rfl, rfl⟩
  body := rfl
  bind := fun xs h => by
    obtain ⟨x0, x1, rfl⟩ := len2 h
    rfl
  clo := rfl
  co := rfl
  gen := rfl
  kind := rfl
  glob := rfl
  bi := rfl
  nod := by decide +kernel
  loc := fun x hx => loc_of rfl x hx
  cells := fun n => rfl
  bx1 := by decide
theorem k_law_run (P : Params) {K : Frag} (hK : K = KK P) : FnK K 128 (fdOf (KK P) 128) (["octet", "many"] : List Str) (["things", "left", "ago", "more"] : List Str) ([] : List Str) (bodyOf (fdOf (KK P) 128)) := by
  subst hK
  exact k0_law_run P
theorem b_law_run (P : Params) {prog : Program} {Φ : Act} {lv : Nat} (hK : Φ.K = KK P) (O : Ok prog Φ (lv + 0)) (hF : OkF Φ) (hN : Φ.names = (["octet", "many", "things", "left", "ago", "more"] : List Str)) (hE : Φ.env = callEnvC (fdOf (KK P) 128) Φ.L 128) : SB prog Φ (bodyOf (fdOf (KK P) 128)) d_law_run := by
  have N_bytes : ∀ p, SN prog Φ (.Name "bytes" p) (.type "bytes") := fun p => SN_boot O (by rw [hK]; rfl) boot_bytes (by decide +kernel) (by rw [hE]; rfl) rfl
  have N_max : ∀ p, SN prog Φ (.Name "max" p) (.builtin "max") := fun p => SN_boot O (by rw [hK]; rfl) boot_max (by decide +kernel) (by rw [hE]; rfl) rfl
  have N_min : ∀ p, SN prog Φ (.Name "min" p) (.builtin "min") := fun p => SN_boot O (by rw [hK]; rfl) boot_min (by decide +kernel) (by rw [hE]; rfl) rfl
  have L_ago : ∀ p, SE prog Φ (.Name "ago" p) (mLoc 4) := fun p => SE_loc (by rw [hN]; rfl) O.kind (by rw [hE]; rfl) O.locals rfl
  have L_left : ∀ p, SE prog Φ (.Name "left" p) (mLoc 3) := fun p => SE_loc (by rw [hN]; rfl) O.kind (by rw [hE]; rfl) O.locals rfl
  have L_many : ∀ p, SE prog Φ (.Name "many" p) (mLoc 1) := fun p => SE_loc (by rw [hN]; rfl) O.kind (by rw [hE]; rfl) O.locals rfl
  have L_more : ∀ p, SE prog Φ (.Name "more" p) (mLoc 5) := fun p => SE_loc (by rw [hN]; rfl) O.kind (by rw [hE]; rfl) O.locals rfl
  have L_octet : ∀ p, SE prog Φ (.Name "octet" p) (mLoc 0) := fun p => SE_loc (by rw [hN]; rfl) O.kind (by rw [hE]; rfl) O.locals rfl
  have L_things : ∀ p, SE prog Φ (.Name "things" p) (mLoc 2) := fun p => SE_loc (by rw [hN]; rfl) O.kind (by rw [hE]; rfl) O.locals rfl
  have X_ago : Φ.names[4]? = some ("ago" : Str) := by rw [hN]; rfl
  have K_ago : Φ.env.kindOf ("ago" : Str) = some .local := by rw [hE]; rfl
  have T_ago : IsTG Φ (.loc 4) "ago" := .loc X_ago K_ago
  have X_left : Φ.names[3]? = some ("left" : Str) := by rw [hN]; rfl
  have K_left : Φ.env.kindOf ("left" : Str) = some .local := by rw [hE]; rfl
  have T_left : IsTG Φ (.loc 3) "left" := .loc X_left K_left
  have X_more : Φ.names[5]? = some ("more" : Str) := by rw [hN]; rfl
  have K_more : Φ.env.kindOf ("more" : Str) = some .local := by rw [hE]; rfl
  have T_more : IsTG Φ (.loc 5) "more" := .loc X_more K_more
  have X_things : Φ.names[2]? = some ("things" : Str) := by rw [hN]; rfl
  have K_things : Φ.env.kindOf ("things" : Str) = some .local := by rw [hE]; rfl
  have T_things : IsTG Φ (.loc 2) "things" := .loc X_things K_things
  exact SXs.sb (SXs_cons (SX_asgS (xs := ["things", "left", "ago"]) O (SE_tup (SEs_arg (SE_if (ST_cmp (L_many _) SE_int rfl) (SE_lstC (SEs_arg (SE_call O (N_bytes _) .ty (SEs_arg (SE_lst (SEs_arg (L_octet _) SEs_nil rfl)) SEs_nil rfl) rfl (fun _ _ _ _ _ _ r h => snd_bytes O r h) rfl) SEs_nil rfl)) (SE_lstC SEs_nil)) (SEs_arg (SE_bin (L_many _) SE_int) (SEs_arg SE_int SEs_nil rfl) rfl) rfl)) (.bind T_ago (.bind T_left (.bind T_things .nil))) rfl rfl (by first | rfl | (rw [hE]; rfl) | (rw [hE]; with_unfolding_all rfl))) (SXs_cons (SX_while (fun _ => 5000) (ST_cmp (L_left _) SE_int rfl) (SXs_cons (SX_asg O (SE_if (ST_cmp (L_left _) SE_int rfl) (SE_call O (N_min _) .bi (SEs_arg (L_left _) (SEs_arg SE_int SEs_nil rfl) rfl) rfl (fun _ _ _ _ _ _ r h => snd_min O r h) rfl) SE_int) X_more K_more rfl) (SXs_cons (SX_drop (SE_meth O (L_things _) (SEs_arg (SE_if (ST_cmp (L_more _) SE_int rfl) (SE_call O (N_bytes _) .ty (SEs_arg (SE_lst (SEs_arg (SE_bin (SE_bin (L_more _) SE_int) SE_int) (SEs_arg (L_ago _) SEs_nil rfl) rfl)) SEs_nil rfl) rfl (fun _ _ _ _ _ _ r h => snd_bytes O r h) rfl) (SE_call O (N_bytes _) .ty (SEs_arg (SE_lst (SEs_arg (L_octet _) SEs_nil rfl)) SEs_nil rfl) rfl (fun _ _ _ _ _ _ r h => snd_bytes O r h) rfl)) SEs_nil rfl) rfl rfl rfl rfl pa_list sl_list_append ty_list_append ht_isListC (fun _ _ _ _ _ _ _ _ r hv h => snd_append O r hv h)) (exec_Expr _ _ _ (by rw [hE]; rfl) rfl)) (SXs_cons (SX_asgS (xs := ["left", "ago"]) O (SE_tup (SEs_arg (SE_bin (L_left _) (SE_call O (N_max _) .bi (SEs_arg (L_more _) (SEs_arg SE_int SEs_nil rfl) rfl) rfl (fun _ _ _ _ _ _ r h => snd_max O r h) rfl)) (SEs_arg SE_int SEs_nil rfl) rfl)) (.bind T_ago (.bind T_left .nil)) rfl rfl (by first | rfl | (rw [hE]; rfl) | (rw [hE]; with_unfolding_all rfl))) SXs_nil)))) (SXs_cons (SX_ret O (L_things _)) SXs_nil)))
theorem c_law_run (P : Params) {prog : Program} {Φ : Act} {lv : Nat} (hK : Φ.K = KK P) (O : Ok prog Φ (lv + 1)) (hF : OkF Φ) {σ : List Addr} {imm : List (Addr × Obj)} {st : St} {s : Shared} {vs : List V} {xs : List Value} (r : Rel prog Φ σ imm st s) (h : VRs (kno imm Φ.Hk) σ vs xs) : Snd prog Φ VR (PySem.call (.ref 128) xs) (f_law_run vs st) σ imm s :=
  snd_call (pass := false) (d := d_law_run) O (k_law_run P hK) (by decide) (fun Ψ q1 q2 q3 q4 q5 q6 => b_law_run P (q1.trans hK) q2 q3 q4 q5) r h (.inl hF)
theorem k0_law_mapped (P : Params) : FnK (KK P) 133 (fdOf (KK P) 133) (["things"] : List Str) (["found", "at"] : List Str) (["some"] : List Str) (bodyOf (fdOf (KK P) 133)) where
  look := ⟨_, rfl, rfl⟩
  code := ⟨_, _, _, _, rfl, rfl, rfl, rfl⟩
  body := rfl
  bind := fun xs h => by
    obtain ⟨x0, rfl⟩ := len1 h
    rfl
  clo := rfl
  co := rfl
  gen := rfl
  kind := rfl
  glob := rfl
  bi := rfl
  nod := by decide +kernel
  loc := fun x hx => loc_of rfl x hx
  cells := fun n => rfl
  bx1 := by decide
theorem k_law_mapped (P : Params) {K : Frag} (hK : K = KK P) : FnK K 133 (fdOf (KK P) 133) (["things"] : List Str) (["found", "at"] : List Str) (["some"] : List Str) (bodyOf (fdOf (KK P) 133)) := by
  subst hK
  exact k0_law_mapped P
theorem b_law_mapped (P : Params) {prog : Program} {Φ : Act} {lv : Nat} (hK : Φ.K = KK P) (O : Ok prog Φ (lv + 0)) (hF : OkF Φ) (hN : Φ.names = (["things", "found", "at"] : List Str)) (hE : Φ.env = callEnvC (fdOf (KK P) 133) Φ.L 133) (hS : Φ.sig0 = [Φ.L + 1]) : SB prog Φ (bodyOf (fdOf (KK P) 133)) d_law_mapped := by
  have C_some : Φ.env.cells.lookup ("some" : Str) = some (Φ.L + 1) := by rw [hE]; rfl
  have S_some : Φ.sig0[0]? = some (Φ.L + 1) := by rw [hS]; rfl
  have B_some : ∀ p, SE prog Φ (.Name "some" p) (mBox 0) := fun p => SE_box O (.inl (by rw [hE]; rfl)) C_some S_some rfl rfl
  have N_bytes : ∀ p, SN prog Φ (.Name "bytes" p) (.type "bytes") := fun p => SN_boot O (by rw [hK]; rfl) boot_bytes (by decide +kernel) (by rw [hE]; rfl) rfl
  have N_len : ∀ p, SN prog Φ (.Name "len" p) (.builtin "len") := fun p => SN_boot O (by rw [hK]; rfl) boot_len (by decide +kernel) (by rw [hE]; rfl) rfl
  have N_range : ∀ p, SN prog Φ (.Name "range" p) (.type "range") := fun p => SN_boot O (by rw [hK]; rfl) boot_range (by decide +kernel) (by rw [hE]; rfl) rfl
  have N_sum : ∀ p, SN prog Φ (.Name "sum" p) (.builtin "sum") := fun p => SN_boot O (by rw [hK]; rfl) boot_sum (by decide +kernel) (by rw [hE]; rfl) rfl
  have L_at : ∀ p, SE prog Φ (.Name "at" p) (mLoc 2) := fun p => SE_loc (by rw [hN]; rfl) O.kind (by rw [hE]; rfl) O.locals rfl
  have L_found : ∀ p, SE prog Φ (.Name "found" p) (mLoc 1) := fun p => SE_loc (by rw [hN]; rfl) O.kind (by rw [hE]; rfl) O.locals rfl
  have L_things : ∀ p, SE prog Φ (.Name "things" p) (mLoc 0) := fun p => SE_loc (by rw [hN]; rfl) O.kind (by rw [hE]; rfl) O.locals rfl
  have X_at : Φ.names[2]? = some ("at" : Str) := by rw [hN]; rfl
  have K_at : Φ.env.kindOf ("at" : Str) = some .local := by rw [hE]; rfl
  have T_at : IsTG Φ (.loc 2) "at" := .loc X_at K_at
  have X_found : Φ.names[1]? = some ("found" : Str) := by rw [hN]; rfl
  have K_found : Φ.env.kindOf ("found" : Str) = some .local := by rw [hE]; rfl
  have T_found : IsTG Φ (.loc 1) "found" := .loc X_found K_found
  have T_some : IsTG Φ (.box 0) "some" := .box (by rw [hE]; rfl) C_some S_some
  exact SXs.sb (SXs_cons (SX_asg O SE_bytes X_found K_found rfl) (SXs_cons (SX_for O (SE_call O (N_range _) .ty (SEs_arg SE_int (SEs_arg (SE_call O (N_len _) .bi (SEs_arg (L_things _) SEs_nil rfl) rfl (fun _ _ _ _ _ _ r h => snd_len O r h) rfl) (SEs_arg SE_int SEs_nil rfl) rfl) rfl) rfl (fun _ _ _ _ _ _ r h => snd_range O r h) rfl) (SA_name O T_at) (SXs_cons (SX_asgB O (SE_slice (L_things _) (SEo_some (L_at _)) (SEo_some (SE_bin (L_at _) SE_int))) T_some rfl) (SXs_cons (SX_asg O (SE_bin (SE_bin (L_found _) (SE_call O (N_bytes _) .ty (SEs_arg (SE_lst (SEs_arg (SE_call O (N_sum _) .bi (SEs_arg (SE_comp (names := ["k"]) O (SE_call O (N_range _) .ty (SEs_arg (SE_call O (N_len _) .bi (SEs_arg (B_some _) SEs_nil rfl) rfl (fun _ _ _ _ _ _ r h => snd_len O r h) rfl) SEs_nil rfl) rfl (fun _ _ _ _ _ _ r h => snd_range O r h) rfl) (fun _ => rfl) (by first | exact rfl | (rw [hE]; rfl)) (by intro y hy; revert y hy; decide +kernel) rfl (by intro y hy hl; revert y hy hl; decide +kernel) (by decide +kernel) (fun C m sig hsig O => by
      have B_some : ∀ p, SE prog _ (.Name "some" p) (mBox 0) := fun p => SE_box O (.inl (by show Env.kindOf (compEnvC _ _ _ Φ.env) _ = _; rw [hE]; rfl)) rfl (pre_get hsig S_some) rfl rfl
      have N_len : ∀ p, SN prog _ (.Name "len" p) (.builtin "len") := fun p => SN_boot O (by rw [show (compAct Φ _ C m sig _).K = Φ.K from rfl, hK]; rfl) boot_len (by decide +kernel) rfl rfl
      have L_k : ∀ p, SE prog _ (.Name "k" p) (mLoc 0) := fun p => SE_loc rfl O.kind rfl O.locals rfl
      exact ⟨(SA_name O (.loc rfl rfl)), (STif_one (ST_cmp (SE_call O (N_len _) .bi (SEs_arg (SE_sub O (B_some _) (L_k _) (fun _ _ => rfl)) SEs_nil rfl) rfl (fun _ _ _ _ _ _ r h => snd_len O r h) rfl) SE_int rfl)), (SE_bin SE_int (L_k _))⟩)) SEs_nil rfl) rfl (fun _ _ _ _ _ _ r h => snd_sum O r h) rfl) SEs_nil rfl)) SEs_nil rfl) rfl (fun _ _ _ _ _ _ r h => snd_bytes O r h) rfl)) (SE_meth O SE_bytes (SEs_arg (B_some _) SEs_nil rfl) rfl rfl rfl rfl pa_bytes sl_bytes_join ty_bytes_join ht_isBytes (fun _ _ _ _ _ _ _ _ r hv h => snd_join O r hv h))) X_found K_found rfl) SXs_nil)) (fun _ => rfl)) (SXs_cons (SX_ret O (L_found _)) SXs_nil)))
theorem c_law_mapped (P : Params) {prog : Program} {Φ : Act} {lv : Nat} (hK : Φ.K = KK P) (O : Ok prog Φ (lv + 1)) (hF : OkF Φ) {σ : List Addr} {imm : List (Addr × Obj)} {st : St} {s : Shared} {vs : List V} {xs : List Value} (r : Rel prog Φ σ imm st s) (h : VRs (kno imm Φ.Hk) σ vs xs) : Snd prog Φ VR (PySem.call (.ref 133) xs) (f_law_mapped vs st) σ imm s :=
  snd_call (pass := false) (d := d_law_mapped) O (k_law_mapped P hK) (by decide) (fun Ψ q1 q2 q3 q4 q5 q6 => b_law_mapped P (q1.trans hK) q2 q3 q4 q5 (q6 rfl)) r h (.inl hF)
theorem k0_law (P : Params) : FnK (KK P) 138 (fdOf (KK P) 138) (["script"] : List Str) (["octets", "raw", "place", "size", "told", "found", "things", "end", "far", "lone", "plain", "due", "some", "at", "turned"] : List Str) ([] : List Str) (bodyOf (fdOf (KK P) 138)) where
  look := ⟨_, rfl, rfl⟩
  code := ⟨_, _, _, _, rfl, rfl, rfl, rfl⟩
  body := rfl
  bind := fun xs h => by
    obtain ⟨x0, rfl⟩ := len1 h
    rfl
  clo := rfl
  co := rfl
  gen := rfl
  kind := rfl
  glob := rfl
  bi := rfl
  nod := by decide +kernel
  loc := fun x hx => loc_of rfl x hx
  cells := fun n => rfl
  bx1 := by decide
theorem b_law (P : Params) {prog : Program} {Φ : Act} {lv : Nat} (hK : Φ.K = KK P) (O : Ok prog Φ (lv + 3)) (hF : OkF Φ) (hN : Φ.names = (["script", "octets", "raw", "place", "size", "told", "found", "things", "end", "far", "lone", "plain", "due", "some", "at", "turned"] : List Str)) (hE : Φ.env = callEnvC (fdOf (KK P) 138) Φ.L 138) : SB prog Φ (bodyOf (fdOf (KK P) 138)) d_law := by
  have C__law_are_things : Callee Φ.K (.ref 121) := by rw [hK]; exact .fn (k_law_are_things P rfl).look.choose_spec.1 (k_law_are_things P rfl).look.choose_spec.2
  have H__law_are_things : ∀ {σ : List Addr} {imm : List (Addr × Obj)} {st : St} {s : Shared} {vs : List V} {xs : List Value}, Rel prog Φ σ imm st s → VRs (kno imm Φ.Hk) σ vs xs → Snd prog Φ VR (PySem.call (.ref 121) xs) (f_law_are_things vs st) σ imm s := fun r h => c_law_are_things P hK O hF r h
  have C__law_heard : Callee Φ.K (.ref 114) := by rw [hK]; exact .fn (k_law_heard P rfl).look.choose_spec.1 (k_law_heard P rfl).look.choose_spec.2
  have H__law_heard : ∀ {σ : List Addr} {imm : List (Addr × Obj)} {st : St} {s : Shared} {vs : List V} {xs : List Value}, Rel prog Φ σ imm st s → VRs (kno imm Φ.Hk) σ vs xs → Snd prog Φ VR (PySem.call (.ref 114) xs) (f_law_heard vs st) σ imm s := fun r h => c_law_heard P hK O hF r h
  have C__law_mapped : Callee Φ.K (.ref 133) := by rw [hK]; exact .fn (k_law_mapped P rfl).look.choose_spec.1 (k_law_mapped P rfl).look.choose_spec.2
  have H__law_mapped : ∀ {σ : List Addr} {imm : List (Addr × Obj)} {st : St} {s : Shared} {vs : List V} {xs : List Value}, Rel prog Φ σ imm st s → VRs (kno imm Φ.Hk) σ vs xs → Snd prog Φ VR (PySem.call (.ref 133) xs) (f_law_mapped vs st) σ imm s := fun r h => c_law_mapped P hK O hF r h
  have C__law_octets : Callee Φ.K (.ref 100) := by rw [hK]; exact .fn (k_law_octets P rfl).look.choose_spec.1 (k_law_octets P rfl).look.choose_spec.2
  have H__law_octets : ∀ {σ : List Addr} {imm : List (Addr × Obj)} {st : St} {s : Shared} {vs : List V} {xs : List Value}, Rel prog Φ σ imm st s → VRs (kno imm Φ.Hk) σ vs xs → Snd prog Φ VR (PySem.call (.ref 100) xs) (f_law_octets vs st) σ imm s := fun r h => c_law_octets P hK O hF r h
  have C__law_read : Callee Φ.K (.ref 107) := by rw [hK]; exact .fn (k_law_read P rfl).look.choose_spec.1 (k_law_read P rfl).look.choose_spec.2
  have H__law_read : ∀ {σ : List Addr} {imm : List (Addr × Obj)} {st : St} {s : Shared} {vs : List V} {xs : List Value}, Rel prog Φ σ imm st s → VRs (kno imm Φ.Hk) σ vs xs → Snd prog Φ VR (PySem.call (.ref 107) xs) (f_law_read vs st) σ imm s := fun r h => c_law_read P hK O hF r h
  have C__law_run : Callee Φ.K (.ref 128) := by rw [hK]; exact .fn (k_law_run P rfl).look.choose_spec.1 (k_law_run P rfl).look.choose_spec.2
  have H__law_run : ∀ {σ : List Addr} {imm : List (Addr × Obj)} {st : St} {s : Shared} {vs : List V} {xs : List Value}, Rel prog Φ σ imm st s → VRs (kno imm Φ.Hk) σ vs xs → Snd prog Φ VR (PySem.call (.ref 128) xs) (f_law_run vs st) σ imm s := fun r h => c_law_run P hK O hF r h
  have C_lzjb_pack : Callee Φ.K (.ref 81) := by rw [hK]; exact .fn (k_lzjb_pack P rfl).look.choose_spec.1 (k_lzjb_pack P rfl).look.choose_spec.2
  have H_lzjb_pack : ∀ {σ : List Addr} {imm : List (Addr × Obj)} {st : St} {s : Shared} {vs : List V} {xs : List Value}, Rel prog Φ σ imm st s → VRs (kno imm Φ.Hk) σ vs xs → Snd prog Φ VR (PySem.call (.ref 81) xs) (f_lzjb_pack vs st) σ imm s := fun r h => c_lzjb_pack P hK O hF r h
  have N__law_are_things : ∀ p, SN prog Φ (.Name "_law_are_things" p) (.ref 121) := fun p => SN_glob O (by rw [hK]; rfl) (by rw [hE]; rfl) rfl
  have N__law_heard : ∀ p, SN prog Φ (.Name "_law_heard" p) (.ref 114) := fun p => SN_glob O (by rw [hK]; rfl) (by rw [hE]; rfl) rfl
  have N__law_mapped : ∀ p, SN prog Φ (.Name "_law_mapped" p) (.ref 133) := fun p => SN_glob O (by rw [hK]; rfl) (by rw [hE]; rfl) rfl
  have N__law_octets : ∀ p, SN prog Φ (.Name "_law_octets" p) (.ref 100) := fun p => SN_glob O (by rw [hK]; rfl) (by rw [hE]; rfl) rfl
  have N__law_read : ∀ p, SN prog Φ (.Name "_law_read" p) (.ref 107) := fun p => SN_glob O (by rw [hK]; rfl) (by rw [hE]; rfl) rfl
  have N__law_run : ∀ p, SN prog Φ (.Name "_law_run" p) (.ref 128) := fun p => SN_glob O (by rw [hK]; rfl) (by rw [hE]; rfl) rfl
  have N_all : ∀ p, SN prog Φ (.Name "all" p) (.builtin "all") := fun p => SN_boot O (by rw [hK]; rfl) boot_all (by decide +kernel) (by rw [hE]; rfl) rfl
  have N_bytes : ∀ p, SN prog Φ (.Name "bytes" p) (.type "bytes") := fun p => SN_boot O (by rw [hK]; rfl) boot_bytes (by decide +kernel) (by rw [hE]; rfl) rfl
  have N_len : ∀ p, SN prog Φ (.Name "len" p) (.builtin "len") := fun p => SN_boot O (by rw [hK]; rfl) boot_len (by decide +kernel) (by rw [hE]; rfl) rfl
  have N_lzjb_pack : ∀ p, SN prog Φ (.Name "lzjb_pack" p) (.ref 81) := fun p => SN_glob O (by rw [hK]; rfl) (by rw [hE]; rfl) rfl
  have N_sum : ∀ p, SN prog Φ (.Name "sum" p) (.builtin "sum") := fun p => SN_boot O (by rw [hK]; rfl) boot_sum (by decide +kernel) (by rw [hE]; rfl) rfl
  have L_at : ∀ p, SE prog Φ (.Name "at" p) (mLoc 14) := fun p => SE_loc (by rw [hN]; rfl) O.kind (by rw [hE]; rfl) O.locals rfl
  have L_due : ∀ p, SE prog Φ (.Name "due" p) (mLoc 12) := fun p => SE_loc (by rw [hN]; rfl) O.kind (by rw [hE]; rfl) O.locals rfl
  have L_end : ∀ p, SE prog Φ (.Name "end" p) (mLoc 8) := fun p => SE_loc (by rw [hN]; rfl) O.kind (by rw [hE]; rfl) O.locals rfl
  have L_far : ∀ p, SE prog Φ (.Name "far" p) (mLoc 9) := fun p => SE_loc (by rw [hN]; rfl) O.kind (by rw [hE]; rfl) O.locals rfl
  have L_found : ∀ p, SE prog Φ (.Name "found" p) (mLoc 6) := fun p => SE_loc (by rw [hN]; rfl) O.kind (by rw [hE]; rfl) O.locals rfl
  have L_lone : ∀ p, SE prog Φ (.Name "lone" p) (mLoc 10) := fun p => SE_loc (by rw [hN]; rfl) O.kind (by rw [hE]; rfl) O.locals rfl
  have L_octets : ∀ p, SE prog Φ (.Name "octets" p) (mLoc 1) := fun p => SE_loc (by rw [hN]; rfl) O.kind (by rw [hE]; rfl) O.locals rfl
  have L_place : ∀ p, SE prog Φ (.Name "place" p) (mLoc 3) := fun p => SE_loc (by rw [hN]; rfl) O.kind (by rw [hE]; rfl) O.locals rfl
  have L_plain : ∀ p, SE prog Φ (.Name "plain" p) (mLoc 11) := fun p => SE_loc (by rw [hN]; rfl) O.kind (by rw [hE]; rfl) O.locals rfl
  have L_raw : ∀ p, SE prog Φ (.Name "raw" p) (mLoc 2) := fun p => SE_loc (by rw [hN]; rfl) O.kind (by rw [hE]; rfl) O.locals rfl
  have L_script : ∀ p, SE prog Φ (.Name "script" p) (mLoc 0) := fun p => SE_loc (by rw [hN]; rfl) O.kind (by rw [hE]; rfl) O.locals rfl
  have L_size : ∀ p, SE prog Φ (.Name "size" p) (mLoc 4) := fun p => SE_loc (by rw [hN]; rfl) O.kind (by rw [hE]; rfl) O.locals rfl
  have L_some : ∀ p, SE prog Φ (.Name "some" p) (mLoc 13) := fun p => SE_loc (by rw [hN]; rfl) O.kind (by rw [hE]; rfl) O.locals rfl
  have L_things : ∀ p, SE prog Φ (.Name "things" p) (mLoc 7) := fun p => SE_loc (by rw [hN]; rfl) O.kind (by rw [hE]; rfl) O.locals rfl
  have L_told : ∀ p, SE prog Φ (.Name "told" p) (mLoc 5) := fun p => SE_loc (by rw [hN]; rfl) O.kind (by rw [hE]; rfl) O.locals rfl
  have L_turned : ∀ p, SE prog Φ (.Name "turned" p) (mLoc 15) := fun p => SE_loc (by rw [hN]; rfl) O.kind (by rw [hE]; rfl) O.locals rfl
  have X_at : Φ.names[14]? = some ("at" : Str) := by rw [hN]; rfl
  have K_at : Φ.env.kindOf ("at" : Str) = some .local := by rw [hE]; rfl
  have T_at : IsTG Φ (.loc 14) "at" := .loc X_at K_at
  have X_due : Φ.names[12]? = some ("due" : Str) := by rw [hN]; rfl
  have K_due : Φ.env.kindOf ("due" : Str) = some .local := by rw [hE]; rfl
  have T_due : IsTG Φ (.loc 12) "due" := .loc X_due K_due
  have X_end : Φ.names[8]? = some ("end" : Str) := by rw [hN]; rfl
  have K_end : Φ.env.kindOf ("end" : Str) = some .local := by rw [hE]; rfl
  have T_end : IsTG Φ (.loc 8) "end" := .loc X_end K_end
  have X_far : Φ.names[9]? = some ("far" : Str) := by rw [hN]; rfl
  have K_far : Φ.env.kindOf ("far" : Str) = some .local := by rw [hE]; rfl
  have T_far : IsTG Φ (.loc 9) "far" := .loc X_far K_far
  have X_found : Φ.names[6]? = some ("found" : Str) := by rw [hN]; rfl
  have K_found : Φ.env.kindOf ("found" : Str) = some .local := by rw [hE]; rfl
  have T_found : IsTG Φ (.loc 6) "found" := .loc X_found K_found
  have X_lone : Φ.names[10]? = some ("lone" : Str) := by rw [hN]; rfl
  have K_lone : Φ.env.kindOf ("lone" : Str) = some .local := by rw [hE]; rfl
  have T_lone : IsTG Φ (.loc 10) "lone" := .loc X_lone K_lone
  have X_octets : Φ.names[1]? = some ("octets" : Str) := by rw [hN]; rfl
  have K_octets : Φ.env.kindOf ("octets" : Str) = some .local := by rw [hE]; rfl
  have T_octets : IsTG Φ (.loc 1) "octets" := .loc X_octets K_octets
  have X_place : Φ.names[3]? = some ("place" : Str) := by rw [hN]; rfl
  have K_place : Φ.env.kindOf ("place" : Str) = some .local := by rw [hE]; rfl
  have T_place : IsTG Φ (.loc 3) "place" := .loc X_place K_place
  have X_plain : Φ.names[11]? = some ("plain" : Str) := by rw [hN]; rfl
  have K_plain : Φ.env.kindOf ("plain" : Str) = some .local := by rw [hE]; rfl
  have T_plain : IsTG Φ (.loc 11) "plain" := .loc X_plain K_plain
  have X_raw : Φ.names[2]? = some ("raw" : Str) := by rw [hN]; rfl
  have K_raw : Φ.env.kindOf ("raw" : Str) = some .local := by rw [hE]; rfl
  have T_raw : IsTG Φ (.loc 2) "raw" := .loc X_raw K_raw
  have X_script : Φ.names[0]? = some ("script" : Str) := by rw [hN]; rfl
  have K_script : Φ.env.kindOf ("script" : Str) = some .local := by rw [hE]; rfl
  have T_script : IsTG Φ (.loc 0) "script" := .loc X_script K_script
  have X_size : Φ.names[4]? = some ("size" : Str) := by rw [hN]; rfl
  have K_size : Φ.env.kindOf ("size" : Str) = some .local := by rw [hE]; rfl
  have T_size : IsTG Φ (.loc 4) "size" := .loc X_size K_size
  have X_some : Φ.names[13]? = some ("some" : Str) := by rw [hN]; rfl
  have K_some : Φ.env.kindOf ("some" : Str) = some .local := by rw [hE]; rfl
  have T_some : IsTG Φ (.loc 13) "some" := .loc X_some K_some
  have X_things : Φ.names[7]? = some ("things" : Str) := by rw [hN]; rfl
  have K_things : Φ.env.kindOf ("things" : Str) = some .local := by rw [hE]; rfl
  have T_things : IsTG Φ (.loc 7) "things" := .loc X_things K_things
  have X_told : Φ.names[5]? = some ("told" : Str) := by rw [hN]; rfl
  have K_told : Φ.env.kindOf ("told" : Str) = some .local := by rw [hE]; rfl
  have T_told : IsTG Φ (.loc 5) "told" := .loc X_told K_told
  have X_turned : Φ.names[15]? = some ("turned" : Str) := by rw [hN]; rfl
  have K_turned : Φ.env.kindOf ("turned" : Str) = some .local := by rw [hE]; rfl
  have T_turned : IsTG Φ (.loc 15) "turned" := .loc X_turned K_turned
  exact SXs.sb (SXs_cons (SX_asg O (SE_slice (L_script _) SEo_none (SEo_some SE_int)) X_script K_script rfl) (SXs_cons (SX_asgS (xs := ["octets", "raw"]) O (SE_tup (SEs_arg (SE_call O (N__law_octets _) (C__law_octets) (SEs_arg (L_script _) SEs_nil rfl) rfl (fun _ _ _ _ _ _ r h => H__law_octets r h) rfl) (SEs_arg (SE_call O (N_bytes _) .ty (SEs_arg (SE_comp (names := ["number"]) O (L_script _) (fun _ => rfl) (by first | exact rfl | (rw [hE]; rfl)) (by intro y hy; revert y hy; decide +kernel) rfl (by intro y hy hl; revert y hy hl; decide +kernel) (by decide +kernel) (fun C m sig hsig O => by
      have L_number : ∀ p, SE prog _ (.Name "number" p) (mLoc 0) := fun p => SE_loc rfl O.kind rfl O.locals rfl
      exact ⟨(SA_name O (.loc rfl rfl)), STif_nil, (SE_bin (L_number _) SE_int)⟩)) SEs_nil rfl) rfl (fun _ _ _ _ _ _ r h => snd_bytes O r h) rfl) SEs_nil rfl) rfl)) (.bind T_raw (.bind T_octets .nil)) rfl rfl (by first | rfl | (rw [hE]; rfl) | (rw [hE]; with_unfolding_all rfl))) (SXs_cons (SX_asgS (xs := ["place", "size"]) O (SE_tup (SEs_arg (SE_if (ST_neL O (L_script _) (SE_lst SEs_nil) rfl) (SE_sub O (L_script _) SE_int (fun _ _ => rfl)) SE_int) (SEs_arg (SE_bin (SE_call O (N_sum _) .bi (SEs_arg (L_script _) SEs_nil rfl) rfl (fun _ _ _ _ _ _ r h => snd_sum O r h) rfl) SE_int) SEs_nil rfl) rfl)) (.bind T_size (.bind T_place .nil)) rfl rfl (by first | rfl | (rw [hE]; rfl) | (rw [hE]; with_unfolding_all rfl))) (SXs_cons (SX_asg O (SE_call O (N_lzjb_pack _) (C_lzjb_pack) (SEs_arg (L_octets _) (SEs_arg SE_int SEs_nil rfl) rfl) rfl (fun _ _ _ _ _ _ r h => H_lzjb_pack r h) rfl) X_told K_told rfl) (SXs_cons (SX_asgT O (SE_call O (N__law_read _) (C__law_read) (SEs_arg (L_told _) (SEs_arg (SE_call O (N_len _) .bi (SEs_arg (L_octets _) SEs_nil rfl) rfl (fun _ _ _ _ _ _ r h => snd_len O r h) rfl) SEs_nil rfl) rfl) rfl (fun _ _ _ _ _ _ r h => H__law_read r h) rfl) (.name T_found (.name T_things (.name T_end .nil))) rfl rfl rfl rfl (by first | rfl | (rw [hE]; rfl) | (rw [hE]; with_unfolding_all rfl))) (SXs_cons (SX_if (ST_bool (STs_or (ST_cmp (L_found _) (L_octets _) rfl) (STs_or (ST_cmp (L_end _) (SE_call O (N_len _) .bi (SEs_arg (L_told _) SEs_nil rfl) rfl (fun _ _ _ _ _ _ r h => snd_len O r h) rfl) rfl) (STs_or (ST_not (ST_val (SE_call O (N__law_are_things _) (C__law_are_things) (SEs_arg (L_octets _) (SEs_arg (L_things _) SEs_nil rfl) rfl) rfl (fun _ _ _ _ _ _ r h => H__law_are_things r h) rfl) (fun _ => rfl))) STs_nil)))) (SXs_cons (SX_ret O SE_bool) SXs_nil) SXs_nil) (SXs_cons (SX_if (ST_bool (STs_or (ST_cmp (SE_call O (N_lzjb_pack _) (C_lzjb_pack) (SEs_arg (L_octets _) (SEs_arg (SE_call O (N_len _) .bi (SEs_arg (L_told _) SEs_nil rfl) rfl (fun _ _ _ _ _ _ r h => snd_len O r h) rfl) SEs_nil rfl) rfl) rfl (fun _ _ _ _ _ _ r h => H_lzjb_pack r h) rfl) (L_told _) rfl) (STs_or (ST_bool (STs_and (ST_cmp (L_octets _) SE_bytes rfl) (STs_and (ST_cmp (SE_call O (N_lzjb_pack _) (C_lzjb_pack) (SEs_arg (L_octets _) (SEs_arg (SE_bin (SE_call O (N_len _) .bi (SEs_arg (L_told _) SEs_nil rfl) rfl (fun _ _ _ _ _ _ r h => snd_len O r h) rfl) SE_int) SEs_nil rfl) rfl) rfl (fun _ _ _ _ _ _ r h => H_lzjb_pack r h) rfl) SE_none rfl) STs_nil))) STs_nil))) (SXs_cons (SX_ret O SE_bool) SXs_nil) SXs_nil) (SXs_cons (SX_if (ST_neL O (SE_lst (SEs_arg (SE_call O (N__law_heard _) (C__law_heard) (SEs_arg (L_told _) (SEs_arg (SE_call O (N_len _) .bi (SEs_arg (L_octets _) SEs_nil rfl) rfl (fun _ _ _ _ _ _ r h => snd_len O r h) rfl) SEs_nil rfl) rfl) rfl (fun _ _ _ _ _ _ r h => H__law_heard r h) rfl) (SEs_arg (SE_call O (N__law_heard _) (C__law_heard) (SEs_arg (SE_bin (L_told _) (L_raw _)) (SEs_arg (SE_call O (N_len _) .bi (SEs_arg (L_octets _) SEs_nil rfl) rfl (fun _ _ _ _ _ _ r h => snd_len O r h) rfl) SEs_nil rfl) rfl) rfl (fun _ _ _ _ _ _ r h => H__law_heard r h) rfl) SEs_nil rfl) rfl)) (SE_lst (SEs_arg (L_octets _) (SEs_arg (L_octets _) SEs_nil rfl) rfl)) rfl) (SXs_cons (SX_ret O SE_bool) SXs_nil) SXs_nil) (SXs_cons (SX_if (ST_cmp (SE_call O (N_lzjb_pack _) (C_lzjb_pack) (SEs_arg (SE_bin (SE_call O (N_bytes _) .ty (SEs_arg (SE_lst (SEs_arg (SE_bin (L_place _) SE_int) SEs_nil rfl)) SEs_nil rfl) rfl (fun _ _ _ _ _ _ r h => snd_bytes O r h) rfl) (SE_bin (L_place _) SE_int)) (SEs_arg SE_int SEs_nil rfl) rfl) rfl (fun _ _ _ _ _ _ r h => H_lzjb_pack r h) rfl) (SE_call O (N__law_mapped _) (C__law_mapped) (SEs_arg (SE_call O (N__law_run _) (C__law_run) (SEs_arg (SE_bin (L_place _) SE_int) (SEs_arg (SE_bin (L_place _) SE_int) SEs_nil rfl) rfl) rfl (fun _ _ _ _ _ _ r h => H__law_run r h) rfl) SEs_nil rfl) rfl (fun _ _ _ _ _ _ r h => H__law_mapped r h) rfl) rfl) (SXs_cons (SX_ret O SE_bool) SXs_nil) SXs_nil) (SXs_cons (SX_asgS (xs := ["far", "lone"]) O (SE_tup (SEs_arg (SE_sub O (SE_lst (SEs_arg SE_int (SEs_arg SE_int (SEs_arg SE_int (SEs_arg SE_int (SEs_arg SE_int SEs_nil rfl) rfl) rfl) rfl) rfl)) (SE_bin (L_place _) SE_int) (fun _ _ => rfl)) (SEs_arg (SE_lst (SEs_arg (SE_call O (N_bytes _) .ty (SEs_arg (SE_lst (SEs_arg SE_int SEs_nil rfl)) SEs_nil rfl) rfl (fun _ _ _ _ _ _ r h => snd_bytes O r h) rfl) (SEs_arg (SE_call O (N_bytes _) .ty (SEs_arg (SE_lst (SEs_arg SE_int SEs_nil rfl)) SEs_nil rfl) rfl (fun _ _ _ _ _ _ r h => snd_bytes O r h) rfl) (SEs_arg (SE_call O (N_bytes _) .ty (SEs_arg (SE_lst (SEs_arg SE_int SEs_nil rfl)) SEs_nil rfl) rfl (fun _ _ _ _ _ _ r h => snd_bytes O r h) rfl) SEs_nil rfl) rfl) rfl)) SEs_nil rfl) rfl)) (.bind T_lone (.bind T_far .nil)) rfl rfl (by first | rfl | (rw [hE]; rfl) | (rw [hE]; with_unfolding_all rfl))) (SXs_cons (SX_asg O (SE_bin (SE_bin (SE_call O (N_bytes _) .ty (SEs_arg (SE_lst (SEs_arg SE_int (SEs_arg SE_int (SEs_arg SE_int SEs_nil rfl) rfl) rfl)) SEs_nil rfl) rfl (fun _ _ _ _ _ _ r h => snd_bytes O r h) rfl) (SE_call O (N_bytes _) .ty (SEs_arg (SE_bin (L_far _) SE_int) SEs_nil rfl) rfl (fun _ _ _ _ _ _ r h => snd_bytes O r h) rfl)) (SE_call O (N_bytes _) .ty (SEs_arg (SE_lst (SEs_arg SE_int (SEs_arg SE_int (SEs_arg SE_int SEs_nil rfl) rfl) rfl)) SEs_nil rfl) rfl (fun _ _ _ _ _ _ r h => snd_bytes O r h) rfl)) X_plain K_plain rfl) (SXs_cons (SX_asg O (SE_call O (N__law_mapped _) (C__law_mapped) (SEs_arg (SE_bin (SE_bin (L_lone _) (SE_call O (N__law_run _) (C__law_run) (SEs_arg SE_int (SEs_arg (SE_bin (L_far _) SE_int) SEs_nil rfl) rfl) rfl (fun _ _ _ _ _ _ r h => H__law_run r h) rfl)) (SE_if (ST_cmp (L_far _) SE_int rfl) (SE_lst (SEs_arg (SE_call O (N_bytes _) .ty (SEs_arg (SE_lst (SEs_arg (SE_bin (L_far _) SE_int) (SEs_arg (SE_bin (L_far _) SE_int) SEs_nil rfl) rfl)) SEs_nil rfl) rfl (fun _ _ _ _ _ _ r h => snd_bytes O r h) rfl) SEs_nil rfl)) (L_lone _))) SEs_nil rfl) rfl (fun _ _ _ _ _ _ r h => H__law_mapped r h) rfl) X_due K_due rfl) (SXs_cons (SX_if (ST_neL O (SE_lst (SEs_arg (SE_call O (N_lzjb_pack _) (C_lzjb_pack) (SEs_arg (L_plain _) (SEs_arg SE_int SEs_nil rfl) rfl) rfl (fun _ _ _ _ _ _ r h => H_lzjb_pack r h) rfl) (SEs_arg (SE_call O (N__law_heard _) (C__law_heard) (SEs_arg (L_due _) (SEs_arg (SE_call O (N_len _) .bi (SEs_arg (L_plain _) SEs_nil rfl) rfl (fun _ _ _ _ _ _ r h => snd_len O r h) rfl) SEs_nil rfl) rfl) rfl (fun _ _ _ _ _ _ r h => H__law_heard r h) rfl) SEs_nil rfl) rfl)) (SE_lst (SEs_arg (L_due _) (SEs_arg (L_plain _) SEs_nil rfl) rfl)) rfl) (SXs_cons (SX_ret O SE_bool) SXs_nil) SXs_nil) (SXs_cons (SX_asg O (SE_lstC (SEs_arg (SE_tup (SEs_arg (L_told _) (SEs_arg (L_size _) SEs_nil rfl) rfl)) (SEs_arg (SE_tup (SEs_arg (L_raw _) (SEs_arg (L_size _) SEs_nil rfl) rfl)) SEs_nil rfl) rfl)) X_some K_some rfl) (SXs_cons (SX_if (ST_cmp (L_octets _) SE_bytes rfl) (SXs_cons (SX_asg O (SE_bin (L_place _) (SE_call O (N_len _) .bi (SEs_arg (L_told _) SEs_nil rfl) rfl (fun _ _ _ _ _ _ r h => snd_len O r h) rfl)) X_at K_at rfl) (SXs_cons (SX_asg O (SE_bin (SE_bin (SE_slice (L_told _) SEo_none (SEo_some (L_at _))) (SE_call O (N_bytes _) .ty (SEs_arg (SE_lst (SEs_arg (SE_bin (SE_bin (SE_sub O (L_told _) (L_at _) (fun _ _ => rfl)) (SE_bin (L_place _) SE_int)) SE_int) SEs_nil rfl)) SEs_nil rfl) rfl (fun _ _ _ _ _ _ r h => snd_bytes O r h) rfl)) (SE_slice (L_told _) (SEo_some (SE_bin (L_at _) SE_int)) SEo_none)) X_turned K_turned rfl) (SXs_cons (SX_drop (SE_meth O (L_some _) (SEs_arg (SE_lst (SEs_arg (SE_tup (SEs_arg (SE_slice (L_told _) SEo_none (SEo_some (L_at _))) (SEs_arg (SE_call O (N_len _) .bi (SEs_arg (L_octets _) SEs_nil rfl) rfl (fun _ _ _ _ _ _ r h => snd_len O r h) rfl) SEs_nil rfl) rfl)) (SEs_arg (SE_tup (SEs_arg (L_turned _) (SEs_arg (SE_call O (N_len _) .bi (SEs_arg (L_octets _) SEs_nil rfl) rfl (fun _ _ _ _ _ _ r h => snd_len O r h) rfl) SEs_nil rfl) rfl)) SEs_nil rfl) rfl)) SEs_nil rfl) rfl rfl rfl rfl pa_list sl_list_extend ty_list_extend ht_isListC (fun _ _ _ _ _ _ _ _ r hv h => snd_extendL O r hv h)) (exec_Expr _ _ _ (by rw [hE]; rfl) rfl)) SXs_nil))) SXs_nil) (SXs_cons (SX_ret O (SE_call O (N_all _) .bi (SEs_arg (SE_comp (names := ["one", "many"]) O (L_some _) (fun _ => rfl) (by first | exact rfl | (rw [hE]; rfl)) (by intro y hy; revert y hy; decide +kernel) rfl (by intro y hy hl; revert y hy hl; decide +kernel) (by decide +kernel) (fun C m sig hsig O => by
      have N__law_heard : ∀ p, SN prog _ (.Name "_law_heard" p) (.ref 114) := fun p => SN_glob O (by rw [show (compAct Φ _ C m sig _).K = Φ.K from rfl, hK]; rfl) rfl rfl
      have N__law_read : ∀ p, SN prog _ (.Name "_law_read" p) (.ref 107) := fun p => SN_glob O (by rw [show (compAct Φ _ C m sig _).K = Φ.K from rfl, hK]; rfl) rfl rfl
      have L_many : ∀ p, SE prog _ (.Name "many" p) (mLoc 1) := fun p => SE_loc rfl O.kind rfl O.locals rfl
      have L_one : ∀ p, SE prog _ (.Name "one" p) (mLoc 0) := fun p => SE_loc rfl O.kind rfl O.locals rfl
      exact ⟨(SA_tup O (.name (.loc rfl rfl) (.name (.loc rfl rfl) .nil)) rfl rfl rfl), STif_nil, (SE_cmp (SE_call O (N__law_heard _) (C__law_heard) (SEs_arg (L_one _) (SEs_arg (L_many _) SEs_nil rfl) rfl) rfl (fun _ _ _ _ _ _ r h => n_law_heard P (by exact hK) O r h) rfl) (SE_sub O (SE_call O (N__law_read _) (C__law_read) (SEs_arg (L_one _) (SEs_arg (L_many _) SEs_nil rfl) rfl) rfl (fun _ _ _ _ _ _ r h => n_law_read P (by exact hK) O r h) rfl) SE_int (fun _ _ => rfl)) rfl)⟩)) SEs_nil rfl) rfl (fun _ _ _ _ _ _ r h => snd_all O r h) rfl)) SXs_nil))))))))))))))))
end Mine
end
section
/-! text M1 -/
open PySem PySem.W PyProof.Rows
set_option Elab.async false
set_option maxRecDepth 100000
set_option maxHeartbeats 8000000
set_option pp.deepTerms false
set_option pp.maxSteps 3000
namespace Mine
open Sem (wp)
/-- the law's own activation -/
theorem law_call {P : Params} {prog : Program} {w : World} {s : Shared} {mg mb : Str → Option Value} {a : Addr} {oa : Obj} {n : Nat} {vals : List Value} {vs : List V}
    (X : (KK P).In s.heap) (hg : s.heap.Ns mainGlobals mg) (hb : s.heap.Ns builtinsNs mb) (hl : s.heap.NoLimit) (hbi : ∀ x : Str, x ≠ "__name__" → mb x = bootBuiltins x) (low : sysModules < s.heap.objs.size)
    (ha : s.heap.get? a = some oa) (hac : oa.cls = .type "list") (had : oa.data = .seq vals.toArray n) (hv : VRs (fun b o => s.heap.get? b = some o) [] vs vals)
    {st' : St} {b : Bool} (hd : d_law ⟨[some (.lst vs)] ++ List.replicate 15 none, []⟩ = .ok (.ret (.bool b)) st')
    {Q : Value → Shared → Prop} {E : Value → Shared → Prop} (hQ : ∀ s', (∀ c o, s.heap.get? c = some o → s'.heap.get? c = some o) → s'.gens = s.gens → s'.os = s.os → Q (.bool b) s') :
    wpC (model prog w) callerA (call (.ref 138) [.ref a]) Q E s := by
  have k := k0_law P
  obtain ⟨o, hlook, hdata⟩ := k.look
  have hcode : s.heap.CodeRec (fdOf (KK P) 138).code (fdOf (KK P) 138).qualname := by
    obtain ⟨c, oc, vs, t, q1, q2, q3, q4⟩ := k.code
    exact ⟨c, oc, vs, t, q1, X _ _ q2, q3, q4⟩
  refine wpC_call (codeC_callC (by decide) (X _ _ hlook) hdata hl hcode k.body (k.bind [.ref a] rfl) k.clo (fun x hx => k.loc _ (List.of_mem_zip hx).1) (fun s₁ x => ?_) k.co k.gen k.kind)
  have kp := x.toInCall.keep
  obtain ⟨h₁, tk, hs₁⟩ := x.toInCall.same
  let Ψ : Act := { w := w,  K := KK P, mg := mg, mb := mb, H0 := s.heap, Hk := s.heap, A := callerA.deeper (callEnvC (fdOf (KK P) 138) s.heap.objs.size 138), env := callEnvC (fdOf (KK P) 138) s.heap.objs.size 138, L := s.heap.objs.size
                   outer := [], stk := [callEnvC (fdOf (KK P) 138) s.heap.objs.size 138], outs := [], sig0 := [], s0 := s, names := ["script", "octets", "raw", "place", "size", "told", "found", "things", "end", "far", "lone", "plain", "due", "some", "at", "turned"] }
  have O : Ok prog Ψ (0 + 3) :=
    { hh := rfl, fr := rfl, lk := fun e he => by
        obtain rfl := List.mem_singleton.mp he
        exact ⟨by show (fdOf (KK P) 138).scope.kind ≠ _; rw [k.kind]; decide, _, rfl, .inl rfl⟩
      dep := (by show 1 + claimMargin + 1 + 10 * (0 + 3) + 10 < recursionLimit; decide), un := (by show 4 + _ + 100 * (0 + 3) + 100 < cLine; decide), kind := k.kind, locals := rfl, globals := k.glob, builtins := k.bi, nod := k.nod, X := X, g := hg, b := hb, lim := hl, bi := hbi }
  have hF : OkF Ψ := ⟨rfl, rfl⟩
  have r : Rel prog Ψ [] [] ⟨[some (.lst vs)] ++ List.replicate 15 none, []⟩ s₁ :=
    { gens := by rw [hs₁], drawn := by rw [hs₁], os := by rw [hs₁], keep := kp, loc := ⟨_, x.toInCall.ns, fun i y v q1 q2 => ?_⟩, len := rfl, cells := (fun k a c z => by simp at z), immK := (fun p hp => by cases hp)
      outs := (fun p hp => by cases hp), newL := Nat.le_refl _, newC := (fun a ha => by cases ha), newI := (fun p hp => by cases hp), newO := (fun p hp => by cases hp), nod := List.nodup_nil, pre := List.prefix_refl _, hk := fun b o h => h, noSys := by simp, low := low }
  · have hbody := b_law P (lv := 0) rfl O hF rfl rfl _ _ _ r
    refine wpC_mono (hbody (by rw [hd]; nofun)) ?_ ?_
    · rintro f s' ⟨fv, st2, σ', imm', e1, e2, e3, e4, e5⟩
      rw [hd] at e1
      cases e1
      cases f with
      | ret y =>
        have : y = .bool b := by simpa only [FR, VR] using e5
        subst this
        exact hQ s' e4.keep e4.gens e4.os
      | _ => exact e5.elim
    · rintro e s' ⟨e1, _⟩
      rw [hd] at e1; cases e1
  · have hL : bindL (callEnvC (fdOf (KK P) 138) s.heap.objs.size 138).kindOf ((["script"] : List Str).zip [Value.ref a]) (fun _ => none) "script" = some (.ref a) :=
      bindL_at (i := 0) (by decide) (fun p hp => k.loc p hp) rfl rfl
    match i, q2 with
    | 0, q2 =>
      cases q1; cases q2
      refine ⟨_, hL, ?_⟩
      simp only [VR]
      exact ⟨a, oa, n, vals, rfl, .inr ha, hac, had, hv.mono (fun b o _ h => .inr h) (List.prefix_refl _)⟩
    | j + 1, q2 =>
      have : ([some (V.lst vs)] ++ List.replicate 15 none)[j + 1]? = some (some v) := q2
      rw [List.getElem?_append_right (by simp), List.getElem?_replicate] at this
      split at this <;> cases this
end Mine
end
section
/-! text M2 -/
open PySem PySem.W PyProof.Rows
set_option Elab.async false
set_option maxRecDepth 100000
set_option maxHeartbeats 8000000
set_option pp.deepTerms false
set_option pp.maxSteps 3000
namespace Mine
theorem vrs_ints {kn : Addr → Obj → Prop} {σ : List Addr} : ∀ {vals : List Value} {ns : List Int}, IntsAre vals ns → VRs kn σ (ns.map .int) vals := by
  intro vals ns h
  induction h with
  | nil => simp only [List.map_nil, VRs]
  | cons n t _ ih => simp only [List.map_cons, VRs]; exact ⟨_, _, rfl, .int, ih⟩
noncomputable def Plain : Prop := ∀ ns : List Int, ns.length ≤ 63 → ∃ st', d_law ⟨[some (.lst (ns.map .int))] ++ List.replicate 15 none, []⟩ = .ok (.ret (.bool true)) st'
theorem main (plain : Plain) : PySem.Challenge.rw_np0176_01.Holds := by
  refine hd ?_
  intro w s₀ s₁ mg mb G Y fa o pm cd doc dV kV ho hd' hcd hD hmg hg args vals as hpre hlay hrd hwl hlo
  clear hd' hcd hD ho
  replace hmg : mg (Str.ofString "law") = some (.ref fa) := hmg
  have KX := kIn_of Y
  have X := (Ground.X G).1
  have V := (Ground.X G).2
  refine Ground.open G ?_
  intro T B D TE TW
  wrow_args hpre hlay hrd hwl hlo
  rename_i ns hs hlay0 hL1 hr1 hl2 w4 w3 a vals w0 hL ra wl r0 hI hr hc1 hc
  obtain ⟨st', hp⟩ := plain ns (by lia)
  obtain rfl : fa = 138 := by
    have e : nsIn (KK w.params) mainGlobals "law" = some (some (.ref 138)) := rfl
    have := mg_of KX T.g e
    rw [hmg] at this; cases this; rfl
  obtain ⟨ol, hol, hcl, nl, hdl⟩ := hL
  show wpC _ callerA (call (.ref 138) [.ref a]) _ _ _
  refine law_call (P := w.params) (mg := mg) (mb := mb) (oa := ol) (n := nl) KX T.g T.b T.nolimit T.builtins ?_ hol hcl hdl (vrs_ints hI) hp fun s' q1 q2 q3 => ?_
  · have := Heap.lt_size (KX 138 _ rfl)
    exact Nat.lt_trans (by decide) this
  · refine GoodW.toG ⟨.inl ⟨.bool true, .bool true, [], rfl, fun _ => rfl, .bool true, (by wrow_post), fun _ => ⟨List.nodup_nil, fun a ha => by cases ha⟩⟩, q1, q3, q2.trans hg⟩
end Mine
end
section
/-! text E4 -/
set_option Elab.async false
set_option autoImplicit false
set_option linter.unusedVariables false
set_option linter.unusedSimpArgs false
namespace Mine
section
variable {a0 a1 a2 a3 a4 a5 a6 a7 a8 a9 a10 a11 a12 a13 a14 a15 : Option V} {cs : List Cell}
noncomputable def pv (p : List Int × Nat) : V := .tup [.bytes p.1, .int (p.2 : Int)]
noncomputable def POK (P : List (List Int × Nat)) : Prop := P.length ≤ 10 ∧ ∀ p ∈ P, OB p.1 ∧ p.1.length ≤ 4000 ∧ p.2 ≤ 4000
theorem l_14 {told raw : List Int} {z : Nat} : L14 (LS a0 a1 (some (.bytes raw)) a3 (some (.int (z : Int))) (some (.bytes told)) a6 a7 a8 a9 a10 a11 a12 a13 a14 a15 []) = .ok .next (LS a0 a1 (some (.bytes raw)) a3 (some (.int (z : Int))) (some (.bytes told)) a6 a7 a8 a9 a10 a11 a12 (some (.ref 0)) a14 a15 [.list ([(told, z), (raw, z)].map pv)]) := by
  simp (disch := lia) only [L14, mAsg, mLstC, mCons, mTup, mLoc, LS, List.getElem?_cons_succ, List.getElem?_cons_zero, mNil, R_bind_ok, List.length_cons, List.length_nil, Nat.reduceAdd, Nat.reduceLeDiff, if_true, List.nil_append, List.set_cons_succ, List.set_cons_zero, List.map_cons, pv, List.map_nil]
noncomputable def L15a : Mo FV := (mAsg 14 (mBin .Mod (mLoc 3) (mCall fLen (mCons (mLoc 5) (mNil)))))
noncomputable def L15b : Mo FV := (mAsg 15 (mBin .Add (mBin .Add (mSlice (mLoc 5) (mPair (mNone) (mSome (mLoc 14)))) (mCall fBytes (mCons (mLst (mCons (mBin .Mod (mBin .Add (mSub (mLoc 5) (mLoc 14)) (mBin .FloorDiv (mLoc 3) (mInt 170))) (mInt 256)) (mNil))) (mNil)))) (mSlice (mLoc 5) (mPair (mSome (mBin .Add (mLoc 14) (mInt 1))) (mNone)))))
noncomputable def L15c : Mo FV := (mDrop (mMeth fExtendL isListC (mLoc 13) (mCons (mLst (mCons (mTup (mCons (mSlice (mLoc 5) (mPair (mNone) (mSome (mLoc 14)))) (mCons (mCall fLen (mCons (mLoc 1) (mNil))) (mNil)))) (mCons (mTup (mCons (mLoc 15) (mCons (mCall fLen (mCons (mLoc 1) (mNil))) (mNil)))) (mNil)))) (mNil))))
theorem l15_eq : L15 = mIfS (mTruth (mCmp .NotEq (mLoc 1) (mV (.bytes [])))) (mSeq L15a (mSeq L15b (mSeq L15c mNext))) mNext := by
  unfold L15 L15a L15b L15c
  rfl
theorem l_15 {o raw : List Int} {place : Int} {z : Nat} (ho : OB o) (hr : OB raw) (hl : o.length ≤ 128) (hrl : raw.length ≤ 100) (hz : z ≤ 100) :
    ∃ P b14 b15, POK P ∧ L15 (LS a0 (some (.bytes o)) a2 (some (.int place)) a4 (some (.bytes (packed o))) a6 a7 a8 a9 a10 a11 a12 (some (.ref 0)) a14 a15 [.list ([(packed o, z), (raw, z)].map pv)]) = .ok .next (LS a0 (some (.bytes o)) a2 (some (.int place)) a4 (some (.bytes (packed o))) a6 a7 a8 a9 a10 a11 a12 (some (.ref 0)) b14 b15 [.list (P.map pv)]) := by
  have hpl := packed_len (by lia) ho
  have hpo := packed_ob ho
  rw [l15_eq]
  by_cases hn : o = []
  · have e : (o != ([] : List Int)) = false := by rw [hn]; rfl
    refine ⟨[(packed o, z), (raw, z)], a14, a15, ⟨by simp, fun p hp => ?_⟩, ifS_f (st' := LS a0 (some (.bytes o)) a2 (some (.int place)) a4 (some (.bytes (packed o))) a6 a7 a8 a9 a10 a11 a12 (some (.ref 0)) a14 a15 [.list ([(packed o, z), (raw, z)].map pv)]) ?_⟩
    · simp only [List.mem_cons, List.not_mem_nil, or_false] at hp
      rcases hp with rfl | rfl
      · exact ⟨hpo, by dsimp only; lia, by dsimp only; lia⟩
      · exact ⟨hr, by dsimp only; lia, by dsimp only; lia⟩
    · simp (disch := lia) only [mTruth, mCmp, mLoc, LS, List.map_cons, List.map_nil, List.getElem?_cons_succ, List.getElem?_cons_zero, mV, cmpV, eqV, neV, ordV, isV, isNotV, R_bind_ok, e, truthV]
  · have e : (o != ([] : List Int)) = true := bne_iff_ne.mpr hn
    have hpos := packed_pos hn
    generalize packed o = told at *
    have ha0 := Int.emod_nonneg place (show (told.length : Int) ≠ 0 by lia)
    have ha1 := Int.emod_lt_of_pos place (show (0 : Int) < told.length by lia)
    have hat : place % (told.length : Int) = (((place % (told.length : Int)).toNat : Nat) : Int) := by lia
    generalize (place % (told.length : Int)).toNat = A at *
    have hA : A < told.length := by lia
    have g0 := gI_ob hpo A
    obtain ⟨c, hc, hc2⟩ : ∃ c, (gI told A + place / 170) % 256 = c ∧ 0 ≤ c ∧ c < 256 := ⟨_, rfl, by lia⟩
    have t1 : cutV told none (some (A : Int)) = told.take A := cut_to A told
    have t2 : cutV told (some ((A : Int) + 1)) none = told.drop (A + 1) := cut_from (A + 1) told
    have l1 : (told.take A).length ≤ 400 := by rw [List.length_take]; lia
    have l2 : (told.drop (A + 1)).length ≤ 400 := by rw [List.length_drop]; lia
    have o1 : OB (told.take A) := ob_take hpo A
    have o2 : OB (told.drop (A + 1)) := fun x hx => hpo x (List.mem_of_mem_drop hx)
    have o3 : OB [c] := fun x hx => by rw [List.mem_singleton.mp hx]; exact hc2
    have hb : ∀ st, fBytes [.lst [.int c]] st = .ok (.bytes [c]) st := fun st => bytes_one hc2
    generalize told.take A = X at *
    generalize told.drop (A + 1) = Y at *
    have c1 : ∀ st, binV .Add (.bytes X) (.bytes [c]) st = .ok (.bytes (X ++ [c])) st := fun st => bin_cat (by rw [List.length_singleton]; lia)
    have l3 : (X ++ [c]).length ≤ 401 := by rw [List.length_append, List.length_singleton]; lia
    have o4 := ob_app o1 o3
    generalize X ++ [c] = Z at *
    have c2 : ∀ st, binV .Add (.bytes Z) (.bytes Y) st = .ok (.bytes (Z ++ Y)) st := fun st => bin_cat (by lia)
    have l4 : (Z ++ Y).length ≤ 801 := by rw [List.length_append]; lia
    have o5 := ob_app o4 o2
    generalize Z ++ Y = W at *
    have s1 : L15a (LS a0 (some (.bytes o)) a2 (some (.int place)) a4 (some (.bytes told)) a6 a7 a8 a9 a10 a11 a12 (some (.ref 0)) a14 a15 [.list ([(told, z), (raw, z)].map pv)]) = .ok .next (LS a0 (some (.bytes o)) a2 (some (.int place)) a4 (some (.bytes told)) a6 a7 a8 a9 a10 a11 a12 (some (.ref 0)) (some (.int (A : Int))) a15 [.list ([(told, z), (raw, z)].map pv)]) := by
      simp (disch := lia) only [L15a, mAsg, mBin, mLoc, LS, List.map_cons, List.map_nil, List.getElem?_cons_succ, List.getElem?_cons_zero, mCall, mCons, mNil, R_bind_ok, len_bytes, bin_mod, hat, List.set_cons_succ, List.set_cons_zero]
    have s2 : L15b (LS a0 (some (.bytes o)) a2 (some (.int place)) a4 (some (.bytes told)) a6 a7 a8 a9 a10 a11 a12 (some (.ref 0)) (some (.int (A : Int))) a15 [.list ([(told, z), (raw, z)].map pv)]) = .ok .next (LS a0 (some (.bytes o)) a2 (some (.int place)) a4 (some (.bytes told)) a6 a7 a8 a9 a10 a11 a12 (some (.ref 0)) (some (.int (A : Int))) (some (.bytes W)) [.list ([(told, z), (raw, z)].map pv)]) := by
      simp (disch := lia) only [L15b, mAsg, mBin, mSlice, mLoc, LS, List.map_cons, List.map_nil, List.getElem?_cons_succ, List.getElem?_cons_zero, mPair, mNone, mSome, R_bind_ok, slice_bytes, t1, mCall, mCons, mLst, mSub, mInt, mNil, sub_bytes, bin_div, bin_add, bin_mod, hc, List.length_cons, List.length_nil, Nat.reduceAdd, Nat.reduceLeDiff, if_true, hb, c1, t2, c2, List.set_cons_succ, List.set_cons_zero]
    have hext : ∀ l (vs ws : List V), vs.length + ws.length ≤ 100 → fExtendL (.ref 0) [.lst ws] ⟨l, [.list vs]⟩ = .ok .none ⟨l, [.list (vs ++ ws)]⟩ := fun l vs ws h => if_pos (by lia)
    have hext2 : ∀ l, fExtendL (.ref 0) [.lst ([(X, o.length), (W, o.length)].map pv)] ⟨l, [.list ([(told, z), (raw, z)].map pv)]⟩ = .ok .none ⟨l, [.list ([(told, z), (raw, z), (X, o.length), (W, o.length)].map pv)]⟩ := fun l => hext l _ _ (by simp)
    have s3 : L15c (LS a0 (some (.bytes o)) a2 (some (.int place)) a4 (some (.bytes told)) a6 a7 a8 a9 a10 a11 a12 (some (.ref 0)) (some (.int (A : Int))) (some (.bytes W)) [.list ([(told, z), (raw, z)].map pv)]) = .ok .next (LS a0 (some (.bytes o)) a2 (some (.int place)) a4 (some (.bytes told)) a6 a7 a8 a9 a10 a11 a12 (some (.ref 0)) (some (.int (A : Int))) (some (.bytes W)) [.list ([(told, z), (raw, z), (X, o.length), (W, o.length)].map pv)]) := by
      simp only [List.map_cons, List.map_nil, pv] at hext2 ⊢
      simp (disch := lia) only [L15c, mDrop, mMeth, mLoc, LS, List.getElem?_cons_succ, List.getElem?_cons_zero, isListC, mCons, mLst, mTup, mSlice, mPair, mNone, mSome, R_bind_ok, mCall, mNil, slice_bytes, t1, len_bytes, List.length_cons, List.length_nil, Nat.reduceAdd, Nat.reduceLeDiff, if_true, hext2]
    refine ⟨[(told, z), (raw, z), (X, o.length), (W, o.length)], some (.int (A : Int)), some (.bytes W), ⟨by simp, fun p hp => ?_⟩, (ifS_t (st' := LS a0 (some (.bytes o)) a2 (some (.int place)) a4 (some (.bytes told)) a6 a7 a8 a9 a10 a11 a12 (some (.ref 0)) a14 a15 [.list ([(told, z), (raw, z)].map pv)]) ?_).trans ?_⟩
    · simp only [List.mem_cons, List.not_mem_nil, or_false] at hp
      rcases hp with rfl | rfl | rfl | rfl
      · exact ⟨hpo, by dsimp only; lia, by dsimp only; lia⟩
      · exact ⟨hr, by dsimp only; lia, by dsimp only; lia⟩
      · exact ⟨o1, by dsimp only; lia, by dsimp only; lia⟩
      · exact ⟨o5, by dsimp only; lia, by dsimp only; lia⟩
    · simp (disch := lia) only [mTruth, mCmp, mLoc, LS, List.map_cons, List.map_nil, List.getElem?_cons_succ, List.getElem?_cons_zero, mV, cmpV, eqV, neV, ordV, isV, isNotV, R_bind_ok, e, truthV]
    · rw [seq_next s1, seq_next s2, seq_next s3]
      rfl
theorem sub_tup3 {p q r : V} {st : St} : subV (.tup [p, q, r]) (.int 0) st = .ok p st := by
  have e : subV (.tup [p, q, r]) (.int 0) st = if (0 : Int) ≤ 0 ∧ (0 : Int) < [p, q, r].length ∧ [p, q, r].length ≤ 1048576 then .ok ([p, q, r].getD (0 : Int).toNat .none) st else .fail := rfl
  rw [e, if_pos ⟨by lia, by simp only [List.length_cons, List.length_nil]; lia, by simp only [List.length_cons, List.length_nil]; lia⟩]
  rfl
theorem pair_ok {b : List Int} {z : Nat} (hb : OB b) (hl : b.length ≤ 4000) (hz : z ≤ 4000) : (mCmp .Eq (mCall (fun vs st => (f_law_heard vs st).noExc) (mCons (mLoc 0) (mCons (mLoc 1) (mNil)))) (mSub (mCall (fun vs st => (f_law_read vs st).noExc) (mCons (mLoc 0) (mCons (mLoc 1) (mNil)))) (mInt 0))) ⟨[some (.bytes b), some (.int (z : Int))], cs⟩ = .ok (.bool true) ⟨[some (.bytes b), some (.int (z : Int))], cs⟩ := by
  have h1 := fun st => heard_eq (st := st) hb hl hz
  have h2 := a_read hb hl hz
  have h3 := rdd_sim (z := z) hb
  cases hr : rdd b z with
  | none =>
    rw [hr] at h2 h3
    obtain ⟨a, h2⟩ := h2
    rw [← h3] at h1
    dsimp only [Option.map_none] at h1
    have hs : ∀ st, subV (nothing a) (.int 0) st = .ok .none st := fun st => sub_tup3
    simp (disch := lia) only [mCmp, mCall, mCons, mLoc, List.getElem?_cons_zero, mNil, R_bind_ok, List.getElem?_cons_succ, h1, nx_ok, mSub, mInt, cmpV, eqV, neV, ordV, isV, isNotV, h2, hs]
  | some y =>
    rw [hr] at h2 h3
    rw [← h3] at h1
    dsimp only [Option.map_some] at h1 h2
    have hs : ∀ p q r st, subV (.tup [p, q, r]) (.int 0) st = .ok p st := fun p q r st => sub_tup3
    simp (disch := lia) only [mCmp, mCall, mCons, mLoc, List.getElem?_cons_zero, mNil, R_bind_ok, List.getElem?_cons_succ, h1, nx_ok, mSub, mInt, cmpV, eqV, neV, ordV, isV, isNotV, h2, hs, beq_self_eq_true]
theorem bools_true : ∀ n : Nat, boolsOf ((List.range n).map fun _ => V.bool true) = some ((List.range n).map fun _ => true) := by
  intro n
  generalize List.range n = l
  induction l with
  | nil => rfl
  | cons a l ih => simp only [List.map_cons, boolsOf, ih, Option.map_some]
theorem flats_bools : ∀ l : List Nat, flats (l.map fun _ => V.bool true) = true
  | [] => rfl
  | a :: l => by simp only [List.map_cons, flats, flats_bools l, V.flat, Bool.and_true]
theorem flats_pv : ∀ P : List (List Int × Nat), flats (P.map pv) = true
  | [] => rfl
  | p :: P => by simp only [List.map_cons, flats, flats_pv P, pv, V.flat, Bool.and_true]
theorem l_16 {P : List (List Int × Nat)} (h : POK P) : L16 (LS a0 a1 a2 a3 a4 a5 a6 a7 a8 a9 a10 a11 a12 (some (.ref 0)) a14 a15 [.list (P.map pv)]) = .ok (.ret (.bool true)) (LS a0 a1 a2 a3 a4 a5 a6 a7 a8 a9 a10 a11 a12 (some (.ref 0)) a14 a15 [.list (P.map pv)]) := by
  obtain ⟨hP, hp⟩ := h
  have key := comp_spec (d := mLoc 13) (src := .list (.ref 0)) (asg := setTup [.loc 0, .loc 1]) (t := fun st => .ok true st) (e := (mCmp .Eq (mCall (fun vs st => (f_law_heard vs st).noExc) (mCons (mLoc 0) (mCons (mLoc 1) (mNil)))) (mSub (mCall (fun vs st => (f_law_read vs st).noExc) (mCons (mLoc 0) (mCons (mLoc 1) (mNil)))) (mInt 0)))) (nl := 2) (N := P.length) (st := (LS a0 a1 a2 a3 a4 a5 a6 a7 a8 a9 a10 a11 a12 (some (.ref 0)) a14 a15 [.list (P.map pv)])) (v := .ref 0)
    (fun i => pv (P.getD i ([], 0))) (fun _ => true) (fun k => .bool true) (by lia) rfl (if_pos (by rw [List.length_map]; lia)) (by
      show (P.map pv).length + 1 = _
      rw [List.length_map]) (by
      show (Cell.flat (.list (P.map pv)) && true) = true
      rw [Bool.and_true]; exact flats_pv P) (by rw [filter_all]; exact flats_bools _) (fun i l ws h => by
      show (some (P.map pv)).map (fun vs => vs[i]?) = _
      rw [Option.map_some, List.getElem?_map]
      by_cases hi : i < P.length
      · rw [if_pos hi, List.getElem?_eq_getElem hi, List.getD_eq_getElem?_getD, List.getElem?_eq_getElem hi]; rfl
      · rw [if_neg hi, List.getElem?_eq_none (by lia)]; rfl) (by
      intro i l ws hi hl
      obtain ⟨a, b, rfl⟩ : ∃ a b, l = [a, b] := by
        match l, hl with
        | [a, b], _ => exact ⟨a, b, rfl⟩
      have hq : P.getD i ([], 0) ∈ P := by
        rw [List.getD_eq_getElem?_getD, List.getElem?_eq_getElem hi]; exact List.getElem_mem hi
      generalize P.getD i ([], 0) = p at *
      obtain ⟨q1, q2, q3⟩ := hp p hq
      exact ⟨[some (.bytes p.1), some (.int (p.2 : Int))], rfl, rfl, rfl, fun _ => pair_ok q1 q2 q3⟩)
  rw [filter_all] at key
  have hall : ∀ st, fAll [.lst ((List.range P.length).map fun _ => V.bool true)] st = .ok (.bool true) st := by
    intro st
    simp only [fAll, listOf, bools_true]
    rw [show ((List.range P.length).map fun _ => true).all id = true by rw [List.all_eq_true]; intro x hx; obtain ⟨_, _, rfl⟩ := List.mem_map.mp hx; rfl]
  unfold L16
  simp (disch := lia) only [mRet, mCall, mCons, key, mNil, R_bind_ok, hall]
end
theorem plain : Plain := by
  intro ns h
  obtain ⟨o, h1, h2, h3⟩ := l_2 (a1 := none) (a2 := none) (a3 := none) (a4 := none) (a5 := none) (a6 := none) (a7 := none) (a8 := none) (a9 := none) (a10 := none) (a11 := none) (a12 := none) (a13 := none) (a14 := none) (a15 := none) h
  have hr := raw_ob ns
  have hrl : (rawOf ns).length ≤ 100 := by unfold rawOf; rw [List.length_map]; lia
  have hpl := packed_len (by lia) h1
  have hz : sizeOf_ ns ≤ 100 := by unfold sizeOf_; lia
  obtain ⟨T, t1, t2, h5⟩ := l_5 (a0 := some (.lst (ns.map .int))) (a2 := some (.bytes (rawOf ns))) (a3 := some (.int (placeOf ns))) (a4 := some (.int (sizeOf_ ns : Nat))) (a6 := none) (a7 := none) (a8 := none) (a9 := none) (a10 := none) (a11 := none) (a12 := none) (a13 := none) (a14 := none) (a15 := none) (cs := []) h1 h2
  obtain ⟨far, f1, h10⟩ := l_10 (a0 := some (.lst (ns.map .int))) (a1 := some (.bytes o)) (a2 := some (.bytes (rawOf ns))) (place := placeOf ns) (a4 := some (.int (sizeOf_ ns : Nat))) (a5 := some (.bytes (packed o))) (a6 := some (.bytes o)) (a7 := some (.lst (T.map tv))) (a8 := some (.int ((packed o).length : Int))) (a9 := none) (a10 := none) (a11 := none) (a12 := none) (a13 := none) (a14 := none) (a15 := none) (cs := [])
  obtain ⟨P, b14, b15, p1, h15⟩ := l_15 (a0 := some (.lst (ns.map .int))) (a2 := some (.bytes (rawOf ns))) (place := placeOf ns) (a4 := some (.int (sizeOf_ ns : Nat))) (a6 := some (.bytes o)) (a7 := some (.lst (T.map tv))) (a8 := some (.int ((packed o).length : Int))) (a9 := some (.int (far : Int))) (a10 := some (.lst (loneC.map .bytes))) (a11 := some (.bytes (plainL far))) (a12 := some (.bytes (mapd 2000 (dueC far)))) (a14 := none) (a15 := none) h1 hr h2 hrl hz
  have h0 : (⟨[some (.lst (ns.map .int))] ++ List.replicate 15 none, []⟩ : St) = LS (some (.lst (ns.map .int))) none none none none none none none none none none none none none none none [] := rfl
  refine ⟨LS (some (.lst (ns.map .int))) (some (.bytes o)) (some (.bytes (rawOf ns))) (some (.int (placeOf ns))) (some (.int (sizeOf_ ns : Nat))) (some (.bytes (packed o))) (some (.bytes o)) (some (.lst (T.map tv))) (some (.int ((packed o).length : Int))) (some (.int (far : Int))) (some (.lst (loneC.map .bytes))) (some (.bytes (plainL far))) (some (.bytes (mapd 2000 (dueC far)))) (some (.ref 0)) b14 b15 [.list (P.map pv)], ?_⟩
  rw [h0, law_eq, seq_next (l_1 h), seq_next h3, seq_next (l_3 h), seq_next (l_4 h1 h2), seq_next h5, seq_next (l_6 h2 (by lia) t1 t2), seq_next (l_7 h1 h2), seq_next (l_8 h1 hr h2 hrl), seq_next l_9, seq_next h10, seq_next (l_11 f1), seq_next (l_12 f1), seq_next (l_13 f1), seq_next l_14, seq_next h15]
  exact seq_ret (l_16 p1)
end Mine
end
theorem PySem.Challenge.cw_np0176_01_holds : PySem.Challenge.rw_np0176_01.Holds :=
  Mine.main Mine.plain
