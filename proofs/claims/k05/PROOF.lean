import PyProof.Rows.All
import Wide.All
import OpenK.AllK
import Wide.FinOn
import HandS.ForMost
import HandS.Defaults
import HandS.Star
import HandS.DictComp
import HandS.Wide
import HandS.IsInst
import HandS.Strs
import HandS.SetFor
import HandS.SortInts
import HandS.HeadHook1
import HandS.HeadHook2
import HandS.Conv
import HandS.OwnEq
import KE.KOpsOwn
import PyProof.InstEq
import HandS.Head0
import HandS.Head1
import HandS.Head2
import HandS.HeadEnd
import HandS.Flow
import HandS.Codes
import KE.GoesEnum
import HandS.TryOnly
import KE.KFromBytes
import HandS.ExcSuper
import HandS.Ends
import PySem.Challenge.RW_timesalone_k05_whole_rules_of_multiplica
set_option Elab.async false
set_option linter.all false
set_option maxRecDepth 100000
set_option maxHeartbeats 4000000
/-! RL1: what a piece of the text does, told goal by goal (tE, tT, tS), and types of values that persist (Ty) -/
namespace RL
open PySem PySem.Spec PyProof.Rows L2

/-! no star among the elements -/
def notStar : Expr → Bool
  | .Starred _ _ => false
  | _ => true
theorem se_cons {a : Expr} {es : List Expr} {env : Env} (h : notStar a = true) : starEach (a :: es) env = (false, eval a env) :: starEach es env := by
  cases a <;> first | (simp [notStar] at h; done) | (rw [starEach]; done) | (simp only [starEach]; done) | rfl
theorem se_one {a : Expr} {env : Env} (h : notStar a = true) : starEach [a] env = [(false, eval a env)] := by
  rw [se_cons h, starEach]
theorem se_two {a b : Expr} {env : Env} (h : notStar a = true) (h' : notStar b = true) : starEach [a, b] env = [(false, eval a env), (false, eval b env)] := by
  rw [se_cons h, se_one h']
theorem se_any {pos : Pos} {es : List Expr} {env : Env} (h : es.all notStar = true) : (backTo pos (starEach es env)).any (·.1) = false := by
  unfold backTo
  rw [List.any_map]
  induction es with
  | nil => rw [starEach]; rfl
  | cons a es ih =>
    rw [List.all_cons, Bool.and_eq_true] at h
    rw [se_cons h.1, List.any_cons, ih h.2]
    rfl
/-! ### goals -/
structure TEs (X : Cx) (e : Expr) (σ : L2.St) (H : Hp) (Q : VK) : Prop where
  run : ∀ pins s, Inv X pins σ H s → wpAny (model X.prog X.w) X.A (eval e X.env) (EP X pins σ Q) X.xe s
structure TTst (X : Cx) (e : Expr) (σ : L2.St) (H : Hp) (Q : Bool → Hp → Prop) : Prop where
  run : ∀ pins s, Inv X pins σ H s → wpAny (model X.prog X.w) X.A (isTrue e X.env (eval e X.env)) (TP X pins σ Q) X.xe s
structure TAs (X : Cx) (es : List Expr) (σ : L2.St) (H : Hp) (Q : List V → Hp → Prop) : Prop where
  run : ∀ pos pins s, Inv X pins σ H s → wpAny (model X.prog X.w) X.A (spliced (backTo pos (starEach es X.env))) (AP X pins σ Q) X.xe s
structure TSs (X : Cx) (st : Stmt) (D : Ends) (σ : L2.St) (H : Hp) : Prop where
  run : ∀ pins s, Inv X pins σ H s → wpAny (model X.prog X.w) X.A (exec st X.env) (SP X pins D) X.xe s
structure TBs (X : Cx) (st : List Stmt) (D : Ends) (σ : L2.St) (H : Hp) : Prop where
  run : ∀ pins s, Inv X pins σ H s → wpAny (model X.prog X.w) X.A (execs st X.env) (SP X pins D) X.xe s
structure TTss (X : Cx) (ifs : List Expr) (σ : L2.St) (H : Hp) (Q : Bool → Hp → Prop) : Prop where
  run : ∀ pins s, Inv X pins σ H s → wpAny (model X.prog X.w) X.A (forIn ifs true fun c r => if r = true then do let ok ← isTrue c X.env (eval c X.env); pure (ForInStep.yield ok) else pure (ForInStep.yield r)) (TP X pins σ Q) X.xe s
abbrev tE (X : Cx) (e : Expr) : TE := fun σ H Q => TEs X e σ H Q
abbrev tT (X : Cx) (e : Expr) : TT := fun σ H Q => TTst X e σ H Q
abbrev tA (X : Cx) (es : List Expr) : TA := fun σ H Q => TAs X es σ H Q
abbrev tS (X : Cx) (st : Stmt) : TS := fun D σ H => TSs X st D σ H
abbrev tB (X : Cx) (st : List Stmt) : TS := fun D σ H => TBs X st D σ H
abbrev tTs (X : Cx) (ifs : List Expr) : TT := fun σ H Q => TTss X ifs σ H Q
section
variable {X : Cx}
theorem pe (e : Expr) : PE X e (tE X e) := ⟨fun pins s _ _ _ I h => h.run pins s I⟩
theorem pt (e : Expr) : PT X e (tT X e) := ⟨fun pins s _ _ _ I h => h.run pins s I⟩
theorem pa (es : List Expr) : PA X es (tA X es) := ⟨fun pos pins s _ _ _ I h => h.run pos pins s I⟩
theorem ps (st : Stmt) : PS X st (tS X st) := ⟨fun pins s _ _ _ I h => h.run pins s I⟩
theorem pb (st : List Stmt) : PSs X st (tB X st) := ⟨fun pins s _ _ _ I h => h.run pins s I⟩
theorem pts (ifs : List Expr) : PTs X ifs (tTs X ifs) := ⟨fun pins s _ _ _ I h => h.run pins s I⟩
theorem toE {e : Expr} {t : TE} (p : PE X e t) {σ : L2.St} {H : Hp} {Q : VK} (h : t σ H Q) : tE X e σ H Q := ⟨fun pins s I => p.run pins s σ H Q I h⟩
theorem toT {e : Expr} {t : TT} (p : PT X e t) {σ : L2.St} {H : Hp} {Q : Bool → Hp → Prop} (h : t σ H Q) : tT X e σ H Q := ⟨fun pins s I => p.run pins s σ H Q I h⟩
theorem toA {es : List Expr} {t : TA} (p : PA X es t) {σ : L2.St} {H : Hp} {Q : List V → Hp → Prop} (h : t σ H Q) : tA X es σ H Q := ⟨fun pos pins s I => p.run pos pins s σ H Q I h⟩
theorem toS {st : Stmt} {t : TS} (p : PS X st t) {σ : L2.St} {H : Hp} {D : Ends} (h : t D σ H) : tS X st D σ H := ⟨fun pins s I => p.run pins s σ H D I h⟩
theorem toB {st : List Stmt} {t : TS} (p : PSs X st t) {σ : L2.St} {H : Hp} {D : Ends} (h : t D σ H) : tB X st D σ H := ⟨fun pins s I => p.run pins s σ H D I h⟩
theorem toTs {ifs : List Expr} {t : TT} (p : PTs X ifs t) {σ : L2.St} {H : Hp} {Q : Bool → Hp → Prop} (h : t σ H Q) : tTs X ifs σ H Q := ⟨fun pins s I => p.run pins s σ H Q I h⟩
theorem tE_mono {e : Expr} {σ : L2.St} {H : Hp} {Q Q' : VK} (h : tE X e σ H Q) (k : ∀ v H', Q v H' → Q' v H') : tE X e σ H Q' := ⟨fun pins s I =>
  thn (h.run pins s I) fun _ _ ⟨v, H', I', r, q⟩ => ⟨v, H', I', r, k v H' q⟩⟩
theorem tA_mono {es : List Expr} {σ : L2.St} {H : Hp} {Q Q' : List V → Hp → Prop} (h : tA X es σ H Q) (k : ∀ v H', Q v H' → Q' v H') : tA X es σ H Q' := ⟨fun pos pins s I =>
  thn (h.run pos pins s I) fun _ _ ⟨v, H', I', r, q⟩ => ⟨v, H', I', r, k v H' q⟩⟩
theorem tT_mono {e : Expr} {σ : L2.St} {H : Hp} {Q Q' : Bool → Hp → Prop} (h : tT X e σ H Q) (k : ∀ v H', Q v H' → Q' v H') : tT X e σ H Q' := ⟨fun pins s I =>
  thn (h.run pins s I) fun _ _ ⟨H', I', q⟩ => ⟨H', I', k _ H' q⟩⟩
/-- what is tracked at d is frozen as it stands -/
theorem freeze_ok {pins : List (Addr × Obj)} {σ : L2.St} {H : Hp} {s : Shared} {d : Addr} {u : HO} (I : Inv X pins σ H s) (h : H d = some u) (mu : Mut (some u)) : ∃ od, Inv X pins σ (upd H d (.frz od u)) s := I.lock h mu
theorem tE_frz {e : Expr} {σ : L2.St} {H : Hp} {Q : VK} (h : tE X e σ H fun v H' => ∃ d u, H' d = some u ∧ Mut (some u) ∧ ∀ od, Q v (upd H' d (.frz od u))) : tE X e σ H Q := ⟨fun pins s I =>
  thn (h.run pins s I) fun _ _ ⟨v, H', I', r, d, u, hd, mu, q⟩ => by
    obtain ⟨od, J⟩ := I'.lock hd mu
    exact ⟨v, _, J, r, q od⟩⟩
theorem tB_frz {st : List Stmt} {σ : L2.St} {H : Hp} {D : Ends} {d : Addr} {u : HO} (hd : H d = some u) (mu : Mut (some u)) (h : ∀ od, tB X st D σ (upd H d (.frz od u))) : tB X st D σ H := ⟨fun pins s I => by
  obtain ⟨od, J⟩ := I.lock hd mu
  exact (h od).run pins s J⟩
theorem tE_frz0 {e : Expr} {σ : L2.St} {H : Hp} {Q : VK} {d : Addr} {u : HO} (hd : H d = some u) (mu : Mut (some u)) (h : ∀ od, tE X e σ (upd H d (.frz od u)) Q) : tE X e σ H Q := ⟨fun pins s I => by
  obtain ⟨od, J⟩ := I.lock hd mu
  exact (h od).run pins s J⟩
end

/-! ### orders of heaps -/
/-- all that was tracked is as it was -/
def Ex (H H' : Hp) : Prop := ∀ a o, H a = some o → H' a = some o
/-- what may change while it is tracked -/
def Unf : HO → Prop
  | .lst _ => True
  | .dK _ => True
  | .set _ _ => True
  | _ => False
/-- all but lists, dicts, sets that are not frozen -/
def Le (H H' : Hp) : Prop := ∀ a o, ¬ Unf o → H a = some o → H' a = some o
theorem Ex.refl (H : Hp) : Ex H H := fun _ _ h => h
theorem Ex.trans {H H1 H2 : Hp} (a : Ex H H1) (b : Ex H1 H2) : Ex H H2 := fun x o h => b x o (a x o h)
theorem Ex.new {H : Hp} {p : Addr} {o : HO} (h : H p = none) : Ex H (upd H p o) := fun a u e => by
  rw [upd_ne (ne_of_none e h)]; exact e
/-- what the base does not know may change -/
theorem Ex.mut {H H' : Hp} {p : Addr} {o : HO} (e : Ex H H') (h : H p = none) : Ex H (upd H' p o) := fun a u ha => by
  rw [upd_ne (ne_of_none ha h)]; exact e a u ha
theorem Ex.free {H H' : Hp} {p : Addr} (e : Ex H H') (h : H' p = none) : H p = none := by
  cases h1 : H p with
  | none => rfl
  | some o => rw [e p o h1] at h; cases h
theorem Ex.le {H H' : Hp} (e : Ex H H') : Le H H' := fun a o _ h => e a o h
theorem Le.refl (H : Hp) : Le H H := fun _ _ _ h => h
theorem Le.trans {H H1 H2 : Hp} (a : Le H H1) (b : Le H1 H2) : Le H H2 := fun x o u h => b x o u (a x o u h)
theorem Le.mut {H : Hp} {p : Addr} {o u : HO} (h : H p = some u) (hu : Unf u) : Le H (upd H p o) := fun a v nv e => by
  by_cases c : a = p
  · subst c; rw [h] at e; cases e; exact absurd hu nv
  · rw [upd_ne c]; exact e
theorem Le.new {H : Hp} {p : Addr} {o : HO} (h : H p = none) : Le H (upd H p o) := (Ex.new h).le

/-! ### types of values -/
structure Ty where
  is : V → Hp → Prop
  up : ∀ {v H H'}, Ex H H' → is v H → is v H'
instance : CoeFun Ty (fun _ => V → Hp → Prop) := ⟨Ty.is⟩
def anyT : Ty := ⟨fun _ _ => True, fun _ h => h⟩
/-- this very value -/
def valT (w : V) : Ty := ⟨fun v _ => v = w, fun _ h => h⟩
abbrev intT (i : Int) : Ty := valT (.int i)
abbrev strT (x : Str) : Ty := valT (.str x)
abbrev blT (b : Bool) : Ty := valT (.bl b)
abbrev nonT : Ty := valT .non
/-- some of a family -/
def exT {α : Sort u} (T : α → Ty) : Ty := ⟨fun v H => ∃ a, T a v H, fun e ⟨a, h⟩ => ⟨a, (T a).up e h⟩⟩
/-- and a fact -/
def andT (p : Prop) (T : Ty) : Ty := ⟨fun v H => p ∧ T v H, fun e ⟨a, h⟩ => ⟨a, T.up e h⟩⟩
/-- values of types, one by one -/
def All2 : List Ty → List V → Hp → Prop
  | [], [], _ => True
  | T :: Ts, v :: vs, H => T v H ∧ All2 Ts vs H
  | _, _, _ => False
theorem All2.up {H H' : Hp} (e : Ex H H') : ∀ {Ts : List Ty} {vs : List V}, All2 Ts vs H → All2 Ts vs H'
  | [], [], _ => trivial
  | T :: _, _ :: _, ⟨a, b⟩ => ⟨T.up e a, All2.up e b⟩
  | [], _ :: _, h => h.elim
  | _ :: _, [], h => h.elim
theorem All2.len {H : Hp} : ∀ {Ts : List Ty} {vs : List V}, All2 Ts vs H → Ts.length = vs.length
  | [], [], _ => rfl
  | _ :: _, _ :: _, ⟨_, b⟩ => congrArg (· + 1) (All2.len b)
  | [], _ :: _, h => h.elim
  | _ :: _, [], h => h.elim
theorem All2.get {H : Hp} : ∀ {Ts : List Ty} {vs : List V} {i : Nat} {T : Ty}, All2 Ts vs H → Ts[i]? = some T → ∃ v, vs[i]? = some v ∧ T v H
  | T :: _, v :: _, 0, _, ⟨a, _⟩, e => by simp at e; subst e; exact ⟨v, rfl, a⟩
  | _ :: _, _ :: _, i + 1, _, ⟨_, b⟩, e => by simpa using All2.get (i := i) b (by simpa using e)
  | [], _, _, _, _, e => by simp at e
  | _ :: _, [], _, _, h, _ => h.elim
theorem All2.append {H : Hp} : ∀ {Ts Us : List Ty} {vs ws : List V}, All2 Ts vs H → All2 Us ws H → All2 (Ts ++ Us) (vs ++ ws) H
  | [], _, [], _, _, h => h
  | _ :: _, _, _ :: _, _, ⟨a, b⟩, h => ⟨a, All2.append b h⟩
  | [], _, _ :: _, _, h, _ => h.elim
  | _ :: _, _, [], _, h, _ => h.elim
theorem All2.vals {H : Hp} : ∀ {ws vs : List V}, All2 (ws.map valT) vs H → vs = ws
  | [], [], _ => rfl
  | w :: ws, v :: vs, ⟨a, b⟩ => by have a' : v = w := a; rw [a', All2.vals b]
  | [], _ :: _, h => h.elim
  | _ :: _, [], h => h.elim
theorem All2.of_vals {H : Hp} : ∀ {ws : List V}, All2 (ws.map valT) ws H
  | [] => trivial
  | w :: ws => ⟨rfl, All2.of_vals⟩

/-- a frozen list -/
def FrzL (H : Hp) (a : Addr) (vs : List V) : Prop := ∃ o, H a = some (.frz o (.lst vs))
theorem FrzL.sq {K : PySem.W.Frag} {H : Hp} {a : Addr} {vs : List V} (h : FrzL H a vs) : SqL K H a vs := let ⟨o, h⟩ := h; .inl (.inr ⟨o, h⟩)
theorem FrzL.le {H H' : Hp} {a : Addr} {vs : List V} (e : Le H H') (h : FrzL H a vs) : FrzL H' a vs := let ⟨o, h⟩ := h; ⟨o, e a _ (fun z => z) h⟩
theorem FrzL.up {H H' : Hp} {a : Addr} {vs : List V} (e : Ex H H') (h : FrzL H a vs) : FrzL H' a vs := h.le e.le
/-- a frozen list of such items -/
def lstT (Ts : List Ty) : Ty := ⟨fun v H => ∃ a vs, v = .ref a ∧ FrzL H a vs ∧ All2 Ts vs H, fun {v H H'} e ⟨a, vs, h1, h2, h3⟩ => ⟨a, vs, h1, h2.up e, h3.up e⟩⟩
/-- a tuple of such items -/
def PerT (K : PySem.W.Frag) (H : Hp) (a : Addr) (vs : List V) : Prop := H a = some (.tup vs) ∨ (∃ o, H a = some (.frz o (.tup vs))) ∨ ∀ H' : Hp, SqT K H' a vs
theorem PerT.sq {K : PySem.W.Frag} {H : Hp} {a : Addr} {vs : List V} (h : PerT K H a vs) : SqT K H a vs := by
  rcases h with h | ⟨o, h⟩ | h
  · exact .inl (.inl h)
  · exact .inl (.inr ⟨o, h⟩)
  · exact h H
theorem PerT.le {K : PySem.W.Frag} {H H' : Hp} {a : Addr} {vs : List V} (e : Le H H') (h : PerT K H a vs) : PerT K H' a vs := by
  rcases h with h | ⟨o, h⟩ | h
  · exact .inl (e a _ (fun z => z) h)
  · exact .inr (.inl ⟨o, e a _ (fun z => z) h⟩)
  · exact .inr (.inr h)
theorem PerT.up {K : PySem.W.Frag} {H H' : Hp} {a : Addr} {vs : List V} (e : Ex H H') (h : PerT K H a vs) : PerT K H' a vs := h.le e.le
def tupT (K : PySem.W.Frag) (Ts : List Ty) : Ty := ⟨fun v H => ∃ a vs, v = .ref a ∧ PerT K H a vs ∧ All2 Ts vs H, fun {v H H'} e ⟨a, vs, h1, h2, h3⟩ => ⟨a, vs, h1, h2.up e, h3.up e⟩⟩

/-! what stays though something is mutated -/
class Stb (T : Ty) : Prop where
  le : ∀ {v H H'}, Le H H' → T v H → T v H'
class Stbs (Ts : List Ty) : Prop where
  le : ∀ {vs H H'}, Le H H' → All2 Ts vs H → All2 Ts vs H'
instance : Stb anyT := ⟨fun _ h => h⟩
instance (w : V) : Stb (valT w) := ⟨fun _ h => h⟩
instance {α : Sort u} (T : α → Ty) [h : ∀ a, Stb (T a)] : Stb (exT T) := ⟨fun e ⟨a, k⟩ => ⟨a, (h a).le e k⟩⟩
instance (p : Prop) (T : Ty) [h : Stb T] : Stb (andT p T) := ⟨fun e ⟨a, k⟩ => ⟨a, h.le e k⟩⟩
instance : Stbs [] := ⟨fun {vs H H'} _ h => by cases vs; exact h; exact h⟩
instance (T : Ty) (Ts : List Ty) [h : Stb T] [k : Stbs Ts] : Stbs (T :: Ts) := ⟨fun {vs H H'} e z => match vs, z with | _ :: _, ⟨a, b⟩ => ⟨h.le e a, k.le e b⟩⟩
theorem stbs_of {Ts : List Ty} (h : ∀ T ∈ Ts, Stb T) : Stbs Ts := by
  induction Ts with
  | nil => infer_instance
  | cons T Ts ih =>
    have := h T List.mem_cons_self
    have := ih fun U hU => h U (List.mem_cons_of_mem _ hU)
    infer_instance
instance {α : Type u} (f : α → Ty) (l : List α) [h : ∀ a, Stb (f a)] : Stbs (l.map f) := stbs_of fun T hT => by
  obtain ⟨a, _, rfl⟩ := List.mem_map.mp hT
  exact h a
instance (Ts : List Ty) [h : Stbs Ts] : Stb (lstT Ts) := ⟨fun e ⟨a, vs, h1, h2, h3⟩ => ⟨a, vs, h1, h2.le e, h.le e h3⟩⟩
instance (K : PySem.W.Frag) (Ts : List Ty) [h : Stbs Ts] : Stb (tupT K Ts) := ⟨fun e ⟨a, vs, h1, h2, h3⟩ => ⟨a, vs, h1, h2.le e, h.le e h3⟩⟩

/-! ### contexts: what the slots hold -/
abbrev Ctx := List (Option Ty)
def Typed (σ : L2.St) (Γ : Ctx) (H : Hp) : Prop := σ.length = Γ.length ∧ ∀ (i : Nat) (T : Ty), Γ[i]? = some (some T) → ∃ v, σ[i]? = some (some v) ∧ T v H
theorem Typed.up {σ : L2.St} {Γ : Ctx} {H H' : Hp} (e : Ex H H') (h : Typed σ Γ H) : Typed σ Γ H' := ⟨h.1, fun i T g => let ⟨v, a, b⟩ := h.2 i T g; ⟨v, a, T.up e b⟩⟩
theorem Typed.set {σ : L2.St} {Γ : Ctx} {H : Hp} {T : Ty} {v : V} (i : Nat) (h : Typed σ Γ H) (t : T v H) : Typed (σ.set i (some v)) (Γ.set i (some T)) H := by
  refine ⟨by simp [h.1], fun j U g => ?_⟩
  by_cases c : j = i
  · subst c
    have hl : j < Γ.length := by
      rw [List.getElem?_set_self'] at g
      cases q : Γ[j]? with
      | none => rw [q] at g; cases g
      | some _ => exact (List.getElem?_eq_some_iff.mp q).1
    rw [List.getElem?_set_self hl] at g
    cases g
    exact ⟨v, List.getElem?_set_self (by rw [h.1]; exact hl), t⟩
  · rw [List.getElem?_set_ne (Ne.symm c)] at g ⊢
    exact h.2 j U g
theorem Typed.get {σ : L2.St} {Γ : Ctx} {H : Hp} {T : Ty} (i : Nat) (h : Typed σ Γ H) (g : Γ[i]? = some (some T)) : ∃ v, σ[i]? = some (some v) ∧ T v H := h.2 i T g
/-- fewer words about the slots -/
theorem Typed.weak {σ : L2.St} {Γ Δ : Ctx} {H : Hp} (h : Typed σ Γ H) (hl : Γ.length = Δ.length) (w : ∀ (i : Nat) (T : Ty), Δ[i]? = some (some T) → ∃ U : Ty, Γ[i]? = some (some U) ∧ ∀ v, U v H → T v H) : Typed σ Δ H :=
  ⟨h.1.trans hl, fun i T g => let ⟨U, g', k⟩ := w i T g; let ⟨v, a, b⟩ := h.2 i U g'; ⟨v, a, k v b⟩⟩
theorem Typed.wipe1 {σ : L2.St} {Γ : Ctx} {H : Hp} (i : Nat) (h : Typed σ Γ H) : Typed (σ.set i none) (Γ.set i none) H := by
  refine ⟨by simp [h.1], fun j U g => ?_⟩
  by_cases c : j = i
  · subst c
    rw [List.getElem?_set_self'] at g
    cases q : Γ[j]? with
    | none => rw [q] at g; cases g
    | some _ => rw [q] at g; cases g
  · rw [List.getElem?_set_ne (Ne.symm c)] at g ⊢
    exact h.2 j U g
theorem Typed.wipe {Γ : Ctx} {H : Hp} : ∀ {σ : L2.St} (vs : List Nat), Typed σ Γ H → Typed (L2.wipe σ vs) (vs.foldr (fun v G => G.set v none) Γ) H
  | _, [], h => h
  | _, v :: vs, h => Typed.wipe1 v (Typed.wipe vs h)

/-! ### expressions -/
/-- e gives a value of T, all that was tracked stays -/
def Ev (X : Cx) (σ : L2.St) (H : Hp) (e : Expr) (T : Ty) : Prop := ∀ Q : VK, (∀ v H', Ex H H' → T v H' → Q v H') → tE X e σ H Q
def EvT (X : Cx) (σ : L2.St) (H : Hp) (e : Expr) (b : Bool) : Prop := ∀ Q : Bool → Hp → Prop, (∀ H', Ex H H' → Q b H') → tT X e σ H Q
def EvA (X : Cx) (σ : L2.St) (H : Hp) (es : List Expr) (Ts : List Ty) : Prop := ∀ Q : List V → Hp → Prop, (∀ vs H', Ex H H' → All2 Ts vs H' → Q vs H') → tA X es σ H Q
def G (X : Cx) (Γ : Ctx) (e : Expr) (T : Ty) : Prop := ∀ σ H, Typed σ Γ H → Ev X σ H e T
def GT (X : Cx) (Γ : Ctx) (e : Expr) (b : Bool) : Prop := ∀ σ H, Typed σ Γ H → EvT X σ H e b
def GA (X : Cx) (Γ : Ctx) (es : List Expr) (Ts : List Ty) : Prop := ∀ σ H, Typed σ Γ H → EvA X σ H es Ts
section
variable {X : Cx} {Γ : Ctx} {e a b c : Expr} {es : List Expr} {T U : Ty} {Ts : List Ty} {pos p : Pos} {x : Str}
theorem G.imp (h : G X Γ e T) (k : ∀ v H, T v H → U v H) : G X Γ e U := fun σ H t Q q => h σ H t Q fun v H' ex hv => q v H' ex (k v H' hv)
theorem G.is (h : G X Γ e T) (k : T = U) : G X Γ e U := k ▸ h
theorem GT.is {b b' : Bool} (h : GT X Γ e b) (k : b = b') : GT X Γ e b' := k ▸ h
theorem g_var (i : Nat) (hT : Γ[i]? = some (some T) := by rfl) (hN : X.N[i]? = some x := by rfl) (hv : Vis X.env.scope x := by first | exact Or.inl rfl | exact Or.inr (Or.inl rfl) | exact Or.inr (Or.inr rfl)) (hd : (x == ("__debug__" : Str)) = false := by decide)
    (hcd : (x == ("__classdict__" : Str)) = false := by decide) : G X Γ (.Name x pos) T := fun σ H t Q q => by
  obtain ⟨v, h1, h2⟩ := t.get i hT
  exact toE (pe_var (i := i) hN hv hd hcd) ⟨v, h1, q v H (Ex.refl H) h2⟩
theorem g_int {i : Int} {j : Nat} : G X Γ (.Constant (.int i) j pos) (intT i) := fun σ H t Q q => toE pe_int (q _ H (Ex.refl H) rfl)
theorem g_bl {i : Bool} {j : Nat} : G X Γ (.Constant (.bool i) j pos) (blT i) := fun σ H t Q q => toE pe_bl (q _ H (Ex.refl H) rfl)
theorem g_str {i : Str} {j : Nat} : G X Γ (.Constant (.str i) j pos) (strT i) := fun σ H t Q q => toE pe_str (q _ H (Ex.refl H) rfl)
theorem g_non {j : Nat} : G X Γ (.Constant .none j pos) nonT := fun σ H t Q q => toE pe_non (q _ H (Ex.refl H) rfl)
/-- a module's constant -/
theorem g_glob {v : V} {u : Value} (hm : X.mg x = some u) (r : RelV v u) (hg : Gl X x := by rfl) (hd : (x == ("__debug__" : Str)) = false := by decide) : G X Γ (.Name x pos) (valT v) := fun σ H t Q q => toE (pe_glob hg hm r hd) (q _ H (Ex.refl H) rfl)
/-- a binary operation by its rule on values -/
theorem g_op {op : Operator} {r : R2} {T' : Ty} (ho : OpR X (binaryOp op) r) (ha : G X Γ a T) (hb : G X Γ b U) (hr : ∀ x y H, T x H → U y H → ∀ Q : VK, (∀ v H', Ex H H' → T' v H' → Q v H') → r x y H Q) : G X Γ (.BinOp a op b pos) T' := fun σ H t Q q =>
  toE (pe_op ho (pe a) (pe b)) (ha σ H t _ fun v H1 e1 h1 => hb σ H1 (t.up e1) _ fun u H2 e2 h2 => hr v u H2 (T.up e2 h1) h2 Q fun w H3 e3 h3 => q w H3 ((e1.trans e2).trans e3) h3)
theorem g_cmp {op : CmpOp} {r : R2} {T' : Ty} (ho : OpR X (compareOp op) r) (ha : G X Γ a T) (hb : G X Γ b U) (hr : ∀ x y H, T x H → U y H → ∀ Q : VK, (∀ v H', Ex H H' → T' v H' → Q v H') → r x y H Q) (hm : behindInMarks op b = false := by rfl) : G X Γ (.Compare a [op] [b] pos) T' := fun σ H t Q q =>
  toE (pe_cmpR ho (pe a) (pe b) hm) (ha σ H t _ fun v H1 e1 h1 => hb σ H1 (t.up e1) _ fun u H2 e2 h2 => hr v u H2 (T.up e2 h1) h2 Q fun w H3 e3 h3 => q w H3 ((e1.trans e2).trans e3) h3)
theorem gt_cmp {op : CmpOp} {r : R2} {k : Bool} (ho : OpR X (compareOp op) r) (ha : G X Γ a T) (hb : G X Γ b U) (hr : ∀ x y H, T x H → U y H → ∀ Q : VK, (∀ v H', Ex H H' → blT k v H' → Q v H') → r x y H Q) (hm : behindInMarks op b = false := by rfl) : GT X Γ (.Compare a [op] [b] pos) k := fun σ H t Q q =>
  toT (pt_cmpR ho (pe a) (pe b) hm) (ha σ H t _ fun v H1 e1 h1 => hb σ H1 (t.up e1) _ fun u H2 e2 h2 => hr v u H2 (T.up e2 h1) h2 _ fun w H3 e3 h3 => ⟨k, h3, q H3 ((e1.trans e2).trans e3)⟩)
theorem r_I0 {g : Int → Int → V} {i j : Int} : ∀ x y H, intT i x H → intT j y H → ∀ Q : VK, (∀ v H', Ex H H' → valT (g i j) v H' → Q v H') → rI0 g x y H Q := fun x y H hx hy Q q => ⟨i, j, hx, hy, q _ H (Ex.refl H) rfl⟩
theorem r_I {C : Int → Int → Prop} {g : Int → Int → V} {i j : Int} (hc : C i j) : ∀ x y H, intT i x H → intT j y H → ∀ Q : VK, (∀ v H', Ex H H' → valT (g i j) v H' → Q v H') → rI C g x y H Q := fun x y H hx hy Q q => ⟨i, j, hx, hy, hc, q _ H (Ex.refl H) rfl⟩
theorem r_Eq {v w : V} (h : scal v w = true) : ∀ x y H, valT v x H → valT w y H → ∀ Q : VK, (∀ u H', Ex H H' → blT (decide (v = w)) u H' → Q u H') → rEq x y H Q := fun x y H hx hy Q q => by
  have hx' : x = v := hx
  have hy' : y = w := hy
  subst hx'; subst hy'
  exact ⟨h, q _ H (Ex.refl H) rfl⟩
/-! argument lists -/
theorem ga_nil : GA X Γ [] [] := fun σ H t Q q => toA pa_nil (q [] H (Ex.refl H) trivial)
theorem ga_cons (ha : G X Γ a T) (hr : GA X Γ es Ts) (hs : starEach (a :: es) X.env = (false, eval a X.env) :: starEach es X.env := by first | exact se_cons rfl | exact se_one rfl | exact se_two rfl rfl | rfl) : GA X Γ (a :: es) (T :: Ts) := fun σ H t Q q =>
  toA (pa_cons (pe a) (pa es) hs) (ha σ H t _ fun v H1 e1 h1 => hr σ H1 (t.up e1) _ fun vs H2 e2 h2 => q _ H2 (e1.trans e2) ⟨T.up e2 h1, h2⟩)
/-- a written tuple -/
theorem g_tup {k : Nat} (h : GA X Γ es Ts) (hl : Ts.length ≤ sizeLine := by show _ ≤ _; decide) : G X Γ (.Tuple es k pos) (tupT X.K Ts) := fun σ H t Q q =>
  toE (pe_tup (pa es)) (h σ H t _ fun vs H1 e1 h1 => ⟨h1.len ▸ hl, fun p hp => q _ _ (e1.trans (Ex.new hp)) ⟨p, vs, rfl, .inl upd_same, h1.up (Ex.new hp)⟩⟩)
/-- a written list, frozen at once -/
theorem g_lst (h : GA X Γ es Ts) (hl : Ts.length ≤ sizeLine := by show _ ≤ _; decide) : G X Γ (.List es pos) (lstT Ts) := fun σ H t Q q =>
  tE_frz (toE (pe_lst (pa es)) (h σ H t _ fun vs H1 e1 h1 => ⟨h1.len ▸ hl, fun p hp => ⟨p, _, upd_same, trivial, fun od => by
    rw [upd_upd]
    exact q _ _ (e1.trans (Ex.new hp)) ⟨p, vs, rfl, ⟨od, upd_same⟩, h1.up (Ex.new hp)⟩⟩⟩))
/-! tests -/
theorem gt_bl {k : Bool} (h : G X Γ e (blT k)) (he : ∀ whole, isTrue e X.env whole = (do let v ← whole; standAt e.pos; holding [v] (truthy v)) := by intro _; rfl) : GT X Γ e k := fun σ H t Q q =>
  toT (pt_val (pe e) he) (h σ H t _ fun v H1 e1 h1 => ⟨k, h1, q H1 e1⟩)
theorem gt_not {k : Bool} (h : GT X Γ e k) : GT X Γ (.UnaryOp .Not e pos) (!k) := fun σ H t Q q => toT (pt_not (pt e)) (h σ H t _ fun H1 e1 => q H1 e1)
end
end RL

set_option Elab.async false
set_option linter.all false
set_option maxRecDepth 100000
set_option maxHeartbeats 4000000
/-! RL2: promises of defs, calls, fields, statements, loops -/
namespace RL
open PySem PySem.Spec PyProof.Rows L2

/-! ### promises -/
/-- of arguments of such types a value of such a type comes; all that was tracked stays -/
def spG {α : Type} (A : α → List Ty) (R : α → Ty) : Sp := fun vs H Q _ => ∃ a, All2 (A a) vs H ∧ ∀ v H', Ex H H' → R a v H' → Q v H'
/-- a def of the module that keeps a promise -/
structure FnG (P : Program) (w : World) (K : PySem.W.Frag) (mg : Str → Option Value) (base : Heap) (k : Nat) (x : Str) (ps : List Str) (sp : Sp) : Prop where
  ex : ∃ f fd, FnOk P w K mg base CX0 k f fd ps sp ∧ mg x = some (.ref f) ∧ PySem.W.keepIn K (.ref f) = true ∧ Binds K fd ps []
/-- what the classes in Cs have in common: the method m, its def keeps a promise -/
structure MtG (P : Program) (w : World) (K : PySem.W.Frag) (mg : Str → Option Value) (base : Heap) (k : Nat) (Cs : Addr → Prop) (m : Str) (ps : List Str) (sp : Sp) : Prop where
  ex : ∀ C, Cs C → ∃ f fd, FnOk P w K mg base CX0 k f fd ps sp ∧ Cls K C ∧ Meth K C m f ∧ Binds K fd ps []
section
variable {X : Cx} {Γ : Ctx} {e o a b c : Expr} {es : List Expr} {T U : Ty} {Ts : List Ty} {pos p apos : Pos} {x m : Str} {α : Type} {A : α → List Ty} {R : α → Ty} {k : Nat} {ps : List Str}
theorem g_call (F : FnG X.prog X.w X.K X.mg X.base k x ps (spG A R)) (hr : Room k X.A) (i : α) (ha : GA X Γ (e :: es) Ts) (hT : ∀ vs H, All2 Ts vs H → All2 (A i) vs H := by exact fun _ _ h => h)
    (hg : Gl X x := by rfl) (hdb : (x == ("__debug__" : Str)) = false := by decide) (he : starEach (e :: es) X.env = (false, eval e X.env) :: starEach es X.env := by first | exact se_cons rfl | exact se_one rfl | exact se_two rfl rfl | rfl) (hpl : (backTo pos (starEach es X.env)).any (·.1) = false := by first | exact se_any rfl | rfl) {T' : Ty} (hR : R i = T' := by rfl) :
    G X Γ (.Call (.Name x p) (e :: es) [] pos) T' := fun σ H t Q q => by
  subst hR
  obtain ⟨f, fd, F, hm, hk, hb⟩ := F.ex
  refine toE (pe_call F hr hg hm hk hb .nil pass0 (pa _) hdb he hpl) (ha σ H t _ fun vs H1 e1 h1 => ?_)
  rw [List.append_nil]
  exact ⟨i, hT _ _ h1, fun v H2 e2 h2 => q v H2 (e1.trans e2) h2⟩
theorem g_call0 (F : FnG X.prog X.w X.K X.mg X.base k x ps (spG A R)) (hr : Room k X.A) (i : α) (hT : ∀ H, All2 (A i) [] H := by exact fun _ => trivial)
    (hg : Gl X x := by rfl) (hdb : (x == ("__debug__" : Str)) = false := by decide) {T' : Ty} (hR : R i = T' := by rfl) : G X Γ (.Call (.Name x p) [] [] pos) T' := fun σ H t Q q => by
  subst hR
  obtain ⟨f, fd, F, hm, hk, hb⟩ := F.ex
  exact toE (pe_call0 F hr hg hm hk hb .nil pass0 hdb) ⟨i, hT _, fun v H2 e2 h2 => q v H2 e2 h2⟩
/-- an instance of one of the classes in Cs, without the attribute m of its own -/
def InsOf (Cs : Addr → Prop) (m : Str) (v : V) (H : Hp) : Prop := ∃ a C dx fs, v = .ref a ∧ H a = some (.ins C dx fs) ∧ Cs C ∧ fs.lookup m = none
theorem e_meth {pl : Sem Bool} {sp : Sp} {σ : L2.St} {H : Hp} {Q : VK} {Cs : Addr → Prop} (F : MtG X.prog X.w X.K X.mg X.base k Cs m ps sp) (hr : Room k X.A)
    (ht : eval (.Call (.Attribute o m apos) (e :: es) [] pos) X.env = (do
      let ov ← eval o X.env
      standAt apos.atName
      let (f, first) ← holding [ov] (getMethod ov m pl)
      callWith pos f first (backTo pos (starEach (e :: es) X.env)) (backToKw pos (keywordEach [] X.env))))
    (hst : starEach (e :: es) X.env = (false, eval e X.env) :: starEach es X.env) (hpl : (backTo pos (starEach es X.env)).any (·.1) = false)
    (h : tE X o σ H fun v H1 => InsOf Cs m v H1 ∧ tA X (e :: es) σ H1 fun vs H2 => sp (v :: vs) H2 Q E0) : tE X (.Call (.Attribute o m apos) (e :: es) [] pos) σ H Q := by
  refine ⟨fun pins s I => ?_⟩
  refine PySem.W.methodCall_KW (pl := pl) (thn (h.run pins s I) fun u s1 hh => ?_) ht
  obtain ⟨v, H1, I1, rx, ⟨a, C, dx, fs, ev, ea, hc, l⟩, q⟩ := hh
  subst ev
  obtain rfl : u = Value.ref a := rx
  obtain ⟨f, fd, F, c, hm, hb⟩ := F.ex C hc
  refine getmeth_ok I1 ea c hm l (PySem.W.callWith_K (first := [.ref a]) (h₀ := X.base) I.ok.mod.kin hm.kp (thn (q.run pos pins s1 I1) fun us s2 hh => ?_) hst hpl)
  obtain ⟨vs, H2, I2, r2, q2⟩ := hh
  refine ⟨I2.kIn, run_fn (us := .ref a :: us) (vs := .ref a :: vs) F hr hb .nil pass0 I2 (.cons rfl r2) ?_⟩
  rw [List.append_nil]
  exact q2
theorem e_meth0 {pl : Sem Bool} {sp : Sp} {σ : L2.St} {H : Hp} {Q : VK} {Cs : Addr → Prop} (F : MtG X.prog X.w X.K X.mg X.base k Cs m ps sp) (hr : Room k X.A)
    (ht : eval (.Call (.Attribute o m apos) [] [] pos) X.env = (do
      let ov ← eval o X.env
      standAt apos.atName
      let (f, first) ← holding [ov] (getMethod ov m pl)
      callWith pos f first (backTo pos (starEach [] X.env)) (backToKw pos (keywordEach [] X.env))))
    (h : tE X o σ H fun v H1 => InsOf Cs m v H1 ∧ sp [v] H1 Q E0) : tE X (.Call (.Attribute o m apos) [] [] pos) σ H Q := by
  refine ⟨fun pins s I => ?_⟩
  refine PySem.W.methodCall_KW (pl := pl) (thn (h.run pins s I) fun u s1 hh => ?_) ht
  obtain ⟨v, H1, I1, rx, ⟨a, C, dx, fs, ev, ea, hc, l⟩, q⟩ := hh
  subst ev
  obtain rfl : u = Value.ref a := rx
  obtain ⟨f, fd, F, c, hm, hb⟩ := F.ex C hc
  exact getmeth_ok I1 ea c hm l (PySem.W.callWith_K0 (first := [.ref a]) I1.kIn hm.kp (run_fn (us := [.ref a]) (vs := [.ref a]) F hr hb .nil pass0 I1 (.cons rfl .nil) q))
/-- o.m(e, ..) -/
theorem g_meth {pl : Sem Bool} {Cs : Addr → Prop} (F : MtG X.prog X.w X.K X.mg X.base k Cs m ps (spG A R)) (hr : Room k X.A) (i : α) (ho : G X Γ o T) (ha : GA X Γ (e :: es) Ts) (hI : ∀ v H, T v H → InsOf Cs m v H) (hT : ∀ v vs H, T v H → All2 Ts vs H → All2 (A i) (v :: vs) H := by exact fun _ _ _ h h' => ⟨h, h'⟩)
    (ht : eval (.Call (.Attribute o m apos) (e :: es) [] pos) X.env = (do
      let ov ← eval o X.env
      standAt apos.atName
      let (f, first) ← holding [ov] (getMethod ov m pl)
      callWith pos f first (backTo pos (starEach (e :: es) X.env)) (backToKw pos (keywordEach [] X.env))) := by rfl)
    (hst : starEach (e :: es) X.env = (false, eval e X.env) :: starEach es X.env := by first | exact se_cons rfl | exact se_one rfl | exact se_two rfl rfl | rfl) (hpl : (backTo pos (starEach es X.env)).any (·.1) = false := by first | exact se_any rfl | rfl) {T' : Ty} (hR : R i = T' := by rfl) : G X Γ (.Call (.Attribute o m apos) (e :: es) [] pos) T' := fun σ H t Q q => by
  subst hR
  exact e_meth F hr ht hst hpl (ho σ H t _ fun v H1 e1 h1 => ⟨hI v H1 h1, ha σ H1 (t.up e1) _ fun vs H2 e2 h2 => ⟨i, hT v vs H2 (T.up e2 h1) h2, fun w H3 e3 h3 => q w H3 ((e1.trans e2).trans e3) h3⟩⟩)
/-- o.m() -/
theorem g_meth0 {pl : Sem Bool} {Cs : Addr → Prop} (F : MtG X.prog X.w X.K X.mg X.base k Cs m ps (spG A R)) (hr : Room k X.A) (i : α) (ho : G X Γ o T) (hI : ∀ v H, T v H → InsOf Cs m v H) (hT : ∀ v H, T v H → All2 (A i) [v] H := by exact fun _ _ h => ⟨h, trivial⟩)
    (ht : eval (.Call (.Attribute o m apos) [] [] pos) X.env = (do
      let ov ← eval o X.env
      standAt apos.atName
      let (f, first) ← holding [ov] (getMethod ov m pl)
      callWith pos f first (backTo pos (starEach [] X.env)) (backToKw pos (keywordEach [] X.env))) := by rfl) {T' : Ty} (hR : R i = T' := by rfl) : G X Γ (.Call (.Attribute o m apos) [] [] pos) T' := fun σ H t Q q => by
  subst hR
  exact e_meth0 F hr ht (ho σ H t _ fun v H1 e1 h1 => ⟨hI v H1 h1, i, hT v H1 h1, fun w H3 e3 h3 => q w H3 (e1.trans e3) h3⟩)
/-- o.f, a field of an instance -/
theorem g_fld {f : Str} (ho : G X Γ o T) (hf : ∀ v H, T v H → ∃ a C dx fs w, v = .ref a ∧ H a = some (.ins C dx fs) ∧ Cls X.K C ∧ NoAttr X.K C f ∧ fs.lookup f = some w ∧ U w H)
    (hb : attributeBase o f X.env (eval o X.env) = eval o X.env := by rfl) : G X Γ (.Attribute o f pos) U := fun σ H t Q q =>
  toE (pe_fld (pe o) hb) (ho σ H t _ fun v H1 e1 h1 => by
    obtain ⟨a, C, dx, fs, w, h2, h3, h4, h5, h6, h7⟩ := hf v H1 h1
    exact ⟨a, C, dx, fs, w, h2, h3, h4, h5, h6, q w H1 e1 h7⟩)

/-! ### statements -/
/-- what is kept: all of the heap at the entry, and of a later heap what is not mutable -/
structure Bs where
  e : Hp
  l : Hp
def Bs.ok (B : Bs) (H : Hp) : Prop := Ex B.e H ∧ Le B.l H
def Bs.of (H : Hp) : Bs := ⟨H, H⟩
/-- the same entry, a later heap -/
def Bs.at (B : Bs) (H : Hp) : Bs := ⟨B.e, H⟩
theorem Bs.up {B : Bs} {H H' : Hp} (h : B.ok H) (e : Ex H H') : B.ok H' := ⟨h.1.trans e, h.2.trans e.le⟩
theorem Bs.ok.trans {B : Bs} {H H' : Hp} (h : B.ok H) (e : Ex H H') : B.ok H' := ⟨h.1.trans e, h.2.trans e.le⟩
theorem Bs.here {B : Bs} {H : Hp} (h : B.ok H) : (B.at H).ok H := ⟨h.1, Le.refl H⟩
theorem Bs.back {B : Bs} {H1 H : Hp} (h : B.ok H1) (k : (B.at H1).ok H) : B.ok H := ⟨k.1, h.2.trans k.2⟩
theorem Bs.refl (H : Hp) : (Bs.of H).ok H := ⟨Ex.refl H, Le.refl H⟩
/-- from such a context, with the heap H0 at the entry -/
def Bd (X : Cx) (Γ : Ctx) (sts : List Stmt) (B : Bs) (D : Ends) : Prop := ∀ σ H, B.ok H → Typed σ Γ H → tB X sts D σ H
def Sd (X : Cx) (Γ : Ctx) (st : Stmt) (B : Bs) (D : Ends) : Prop := ∀ σ H, B.ok H → Typed σ Γ H → tS X st D σ H
variable {H0 : Bs} {D : Ends} {st : Stmt} {rest body orelse : List Stmt}
theorem tB_cons {σ : L2.St} {H : Hp} (h : tS X st { D with nx := tB X rest D } σ H) : tB X (st :: rest) D σ H := toB (pss_cons (ps st) (pb rest)) h
theorem b_cons (h : Sd X Γ st H0 { D with nx := tB X rest D }) : Bd X Γ (st :: rest) H0 D := fun σ H e t => tB_cons (h σ H e t)
theorem b_nil (h : ∀ σ H, H0.ok H → Typed σ Γ H → D.nx σ H) : Bd X Γ [] H0 D := fun σ H e t => toB pss_nil (h σ H e t)
/-- what follows, from the context behind -/
theorem Bd.nx (h : Bd X Γ rest H0 D) : ∀ σ H, H0.ok H → Typed σ Γ H → tB X rest D σ H := h
theorem b_weak {Δ : Ctx} (h : Bd X Δ rest H0 D) (w : ∀ σ H, Typed σ Γ H → Typed σ Δ H) : Bd X Γ rest H0 D := fun σ H e t => h σ H e (w σ H t)
/-- x = e -/
theorem b_asg (i : Nat) (he : G X Γ e T) (h : Bd X (Γ.set i (some T)) rest H0 D) {p' : Pos} (hN : X.N.Nodup := by first | assumption | decide) (hi : X.N[i]? = some x := by rfl) (hx : Loc X.env.scope x := by first | exact Or.inl rfl | exact Or.inr rfl)
    (hs : swapsWith e (some (.Name x p')) pos.line X.env = pure false := by rfl) (hf : X.fn x = true ∨ X.env.scope.names.lookup x = some .local := by first | exact .inl rfl | exact .inr rfl) : Bd X Γ (.Assign [.Name x p'] e pos :: rest) H0 D :=
  b_cons fun σ H e0 t => toS (ps_set (i := i) hN hi hx (pe e) hs hf) (he σ H t _ fun v H1 e1 h1 => h _ _ (e0.trans e1) ((t.up e1).set i h1))
/-- x = e, e of some type of a family -/
theorem b_asgX {β : Sort u} {F : β → Ty} (i : Nat) (he : G X Γ e (exT F)) (h : ∀ z, Bd X (Γ.set i (some (F z))) rest H0 D) {p' : Pos} (hN : X.N.Nodup := by first | assumption | decide) (hi : X.N[i]? = some x := by rfl) (hx : Loc X.env.scope x := by first | exact Or.inl rfl | exact Or.inr rfl)
    (hs : swapsWith e (some (.Name x p')) pos.line X.env = pure false := by rfl) (hf : X.fn x = true ∨ X.env.scope.names.lookup x = some .local := by first | exact .inl rfl | exact .inr rfl) : Bd X Γ (.Assign [.Name x p'] e pos :: rest) H0 D :=
  b_cons fun σ H e0 t => toS (ps_set (i := i) hN hi hx (pe e) hs hf) (he σ H t _ fun v H1 e1 ⟨z, h1⟩ => h z _ _ (e0.trans e1) ((t.up e1).set i h1))
/-- return e -/
theorem b_ret (he : G X Γ e T) (h : ∀ v H', H0.ok H' → T v H' → D.rt v H') : Bd X Γ (.Return (some e) pos :: rest) H0 D := b_cons fun σ H e0 t => toS (ps_ret (pe e)) (he σ H t _ fun v H1 e1 h1 => h v H1 (e0.trans e1) h1)
theorem b_expr (he : G X Γ e T) (h : Bd X Γ rest H0 D) (hs : swapsWith e none pos.line X.env = pure false := by rfl) : Bd X Γ (.Expr e pos :: rest) H0 D :=
  b_cons fun σ H e0 t => toS (ps_expr (pe e) hs) (he σ H t _ fun v H1 e1 h1 => h _ _ (e0.trans e1) (t.up e1))
theorem b_if {k : Bool} (hc : GT X Γ c k) (h1 : k = true → Bd X Γ body H0 { D with nx := tB X rest D }) (h2 : k = false → Bd X Γ orelse H0 { D with nx := tB X rest D }) : Bd X Γ (.If c body orelse pos :: rest) H0 D :=
  b_cons fun σ H e0 t => toS (ps_if (pt c) (pb body) (pb orelse)) (hc σ H t _ fun H1 e1 => by
    cases k with
    | true => exact iteT (h1 rfl _ _ (e0.trans e1) (t.up e1))
    | false => exact iteF (h2 rfl _ _ (e0.trans e1) (t.up e1)))
/-- what an assignment to a target makes of the context -/
def Tgt (g : TG) (T : Ty) (Δ Δ2 : Ctx) : Prop := ∀ v σ H (Q : L2.St → Hp → Prop), T v H → Typed σ Δ H → (∀ σ2, Typed σ2 Δ2 H → Q σ2 H) → g v σ H Q
theorem tgt_name {j : Nat} {Δ : Ctx} : Tgt (gName j) T Δ (Δ.set j (some T)) := fun v σ H Q h t q => q _ (t.set j h)
theorem tgts2 {K : PySem.W.Frag} {i j : Nat} {Δ : Ctx} {T1 T2 : Ty} : Tgt (gTup K 2 (gCons (gName i) (gCons (gName j) gNil))) (tupT K [T1, T2]) Δ ((Δ.set i (some T1)).set j (some T2)) := fun v σ H Q h t q => by
  obtain ⟨a, vs, ev, ht, h2⟩ := h
  match vs, h2 with
  | [v1, v2], ⟨h1, h2, _⟩ => exact ⟨a, _, ev, ht.sq, rfl, _, _, rfl, _, _, rfl, rfl, q _ ((t.set i h1).set j h2)⟩
theorem tgts3 {K : PySem.W.Frag} {i j l : Nat} {Δ : Ctx} {T1 T2 T3 : Ty} : Tgt (gTup K 3 (gCons (gName i) (gCons (gName j) (gCons (gName l) gNil)))) (tupT K [T1, T2, T3]) Δ (((Δ.set i (some T1)).set j (some T2)).set l (some T3)) := fun v σ H Q h t q => by
  obtain ⟨a, vs, ev, ht, h2⟩ := h
  match vs, h2 with
  | [v1, v2, v3], ⟨h1, h2, h3, _⟩ => exact ⟨a, _, ev, ht.sq, rfl, _, _, rfl, _, _, rfl, _, _, rfl, rfl, q _ (((t.set i h1).set j h2).set l h3)⟩
/-- the ends of a loop's turn: W the next turn's contexts, base H1 -/
def turnD (D : Ends) (X : Cx) (rest : List Stmt) (H1 : Bs) (Ok : Ctx → Prop) : Ends := { D with nx := fun σ H => ∃ Δ, Ok Δ ∧ H1.ok H ∧ Typed σ Δ H, ct := fun σ H => ∃ Δ, Ok Δ ∧ H1.ok H ∧ Typed σ Δ H, bk := tB X rest D }
theorem turn_nx {H1 : Bs} {Ok : Ctx → Prop} (h : Ok Γ) : Bd X Γ [] H1 (turnD D X rest H1 Ok) := b_nil fun σ H e t => ⟨Γ, h, e, t⟩
/-! what is walked -/
/-- items of these types, from a heap on -/
def Turns (J : It) (H1 : Hp) (Ts : List Ty) : Prop := ∀ i H', Le H1 H' → (i < Ts.length → J.go i H' ∧ ∀ x H2, J.yld i H' x H2 → Ex H' H2 ∧ ∃ T : Ty, Ts[i]? = some T ∧ T x H2) ∧ (i = Ts.length → J.stop i H')
structure TIs (X : Cx) (tg iter : Expr) (σ : L2.St) (H : Hp) (Q : It → Hp → Prop) : Prop where
  run : ∀ pins s, Inv X pins σ H s → wpAny (model X.prog X.w) X.A (eval iter X.env) (fun v s1 => wpAny (model X.prog X.w) X.A (pyIter v) (PIE X pins σ tg Q) X.xe s1) X.xe s
abbrev tI (X : Cx) (tg iter : Expr) : TI := fun σ H Q => TIs X tg iter σ H Q
theorem pi {tg iter : Expr} : PI X tg iter (tI X tg iter) := ⟨fun pins s _ _ _ I h => h.run pins s I⟩
theorem toI {tg iter : Expr} {t : TI} (q : PI X tg iter t) {σ : L2.St} {H : Hp} {Q : It → Hp → Prop} (h : t σ H Q) : tI X tg iter σ H Q := ⟨fun pins s I => q.run pins s σ H Q I h⟩
def GI (X : Cx) (Γ : Ctx) (tg iter : Expr) (Ts : List Ty) : Prop := ∀ σ H, Typed σ Γ H → ∀ Q : It → Hp → Prop, (∀ J H1, Ex H H1 → Turns J H1 Ts → Q J H1) → tI X tg iter σ H Q
theorem gi_list [hS : Stbs Ts] {tg it : Expr} (h : G X Γ it (lstT Ts)) : GI X Γ tg it Ts := fun σ H t Q q => toI (pi_list (pe it)) (h σ H t _ fun v H1 e1 ⟨a, vs, ev, hl, h2⟩ => by
  subst ev
  have up : ∀ {H'}, Le H1 H' → SqL X.K H' a vs := fun e => (hl.le e).sq
  refine ⟨a, rfl, ⟨vs, hl.sq⟩, q _ H1 e1 fun i H' e => ⟨fun hi => ?_, fun hi => ⟨vs, up e, by rw [hi, h2.len]; exact Nat.le_refl _⟩⟩⟩
  obtain ⟨v, hv, tv⟩ := (hS.le e h2).get (List.getElem?_eq_getElem hi)
  refine ⟨⟨vs, v, up e, hv⟩, fun x H2 hy => ?_⟩
  obtain ⟨eH, hx⟩ := hy
  subst eH
  have hx' := hx vs (up e)
  rw [hv] at hx'; cases hx'
  exact ⟨Ex.refl _, _, List.getElem?_eq_getElem hi, tv⟩)
theorem gi_tup [hS : Stbs Ts] {tg it : Expr} (h : G X Γ it (tupT X.K Ts)) : GI X Γ tg it Ts := fun σ H t Q q => toI (pi_tup (pe it)) (h σ H t _ fun v H1 e1 ⟨a, vs, ev, hl, h2⟩ => by
  subst ev
  have up : ∀ {H'}, Le H1 H' → SqT X.K H' a vs := fun e => (hl.le e).sq
  refine ⟨a, rfl, ⟨vs, hl.sq⟩, q _ H1 e1 fun i H' e => ⟨fun hi => ?_, fun hi => ⟨vs, up e, by rw [hi, h2.len]; exact Nat.le_refl _⟩⟩⟩
  obtain ⟨v, hv, tv⟩ := (hS.le e h2).get (List.getElem?_eq_getElem hi)
  refine ⟨⟨vs, v, up e, hv⟩, fun x H2 hy => ?_⟩
  obtain ⟨eH, hx⟩ := hy
  subst eH
  have hx' := hx vs (up e)
  rw [hv] at hx'; cases hx'
  exact ⟨Ex.refl _, _, List.getElem?_eq_getElem hi, tv⟩)
def rngT (lo : Int) (n : Nat) : List Ty := (List.range n).map fun (i : Nat) => intT (lo + (i : Int))
theorem rngT_len {lo : Int} {n : Nat} : (rngT lo n).length = n := by simp [rngT]
theorem rngT_get {lo : Int} {n i : Nat} (h : i < n) : (rngT lo n)[i]? = some (intT (lo + (i : Int))) := by simp [rngT, List.getElem?_map, List.getElem?_range h]
theorem turns_rng {lo : Int} {n : Nat} {H1 : Hp} : Turns (Itr lo n) H1 (rngT lo n) := fun i H' e => ⟨fun hi => by
  rw [rngT_len] at hi
  exact ⟨hi, fun x H2 hy => by
    obtain ⟨eH, hx⟩ := hy
    subst eH
    exact ⟨Ex.refl _, _, rngT_get hi, hx⟩⟩, fun hi => by rw [hi, rngT_len]; exact Nat.le_refl _⟩
theorem gi_rng1 {tg : Expr} {p2 : Pos} {n : Int} (h : G X Γ a (intT n)) (hm : X.mg "range" = none) (hn : -(2 ^ 62) ≤ n ∧ n < 2 ^ 62 := by decide) (hg : Gl X "range" := by rfl) (hst : starEach [a] X.env = [(false, eval a X.env)] := by first | exact se_cons rfl | exact se_one rfl | exact se_two rfl rfl | rfl) :
    GI X Γ tg (.Call (.Name "range" p) [a] [] p2) (rngT 0 n.toNat) := fun σ H t Q q => toI (pi_range1 hg hm (pa_cons (pe a) pa_nil hst) hst) (h σ H t _ fun v H1 e1 hv => by
  have hv' : v = .int n := hv
  subst hv'
  exact ⟨n, rfl, hn.1, hn.2, q _ H1 e1 turns_rng⟩)
theorem gi_rng2 {tg : Expr} {p2 : Pos} {lo n : Int} (ha : G X Γ a (intT lo)) (hb : G X Γ b (intT n)) (hm : X.mg "range" = none) (hn : -(2 ^ 62) ≤ lo ∧ lo < 2 ^ 62 ∧ -(2 ^ 62) ≤ n ∧ n < 2 ^ 62) (hg : Gl X "range" := by rfl) (hst : starEach [a, b] X.env = [(false, eval a X.env), (false, eval b X.env)] := by first | exact se_cons rfl | exact se_one rfl | exact se_two rfl rfl | rfl) (hst2 : starEach [b] X.env = [(false, eval b X.env)] := by first | exact se_cons rfl | exact se_one rfl | exact se_two rfl rfl | rfl) :
    GI X Γ tg (.Call (.Name "range" p) [a, b] [] p2) (rngT lo (n - lo).toNat) := fun σ H t Q q => toI (pi_range2 hg hm (pa_cons (pe a) (pa_cons (pe b) pa_nil hst2) (by rw [hst, hst2])) hst hst2) (ha σ H t _ fun v H1 e1 hv => hb σ H1 (t.up e1) _ fun v2 H2 e2 hv2 => by
  have hv' : v = .int lo := hv
  have hv2' : v2 = .int n := hv2
  subst hv'; subst hv2'
  exact ⟨lo, n, rfl, hn, q _ H2 (e1.trans e2) turns_rng⟩)
/-- a frozen dict of such pairs -/
def dicT (kvs : List (Key × V)) : Ty := ⟨fun v H => ∃ a o, v = .ref a ∧ H a = some (.frz o (.dK kvs)), fun {v H H'} e ⟨a, o, h1, h2⟩ => ⟨a, o, h1, e a _ h2⟩⟩
instance (kvs : List (Key × V)) : Stb (dicT kvs) := ⟨fun e ⟨a, o, h1, h2⟩ => ⟨a, o, h1, e a _ (fun z => z) h2⟩⟩
def keysT (kvs : List (Key × V)) : List Ty := kvs.map fun q => valT (kV q.1)
theorem gi_keys {tg it : Expr} {kvs : List (Key × V)} (h : G X Γ it (dicT kvs)) : GI X Γ tg it (keysT kvs) := fun σ H t Q q => toI (pi_keys (pe it)) (h σ H t _ fun v H1 e1 ⟨d, o, ev, hd⟩ => by
  subst ev
  refine ⟨d, o, rfl, .inl ⟨kvs, hd, q _ H1 e1 fun i H' e => ⟨fun hi => ⟨⟨e _ _ (fun z => z) hd, by simpa [keysT] using hi⟩, fun x H2 hy => ?_⟩, fun hi => ⟨e _ _ (fun z => z) hd, by rw [hi]; simp [keysT]⟩⟩⟩⟩
  obtain ⟨eH, k, v, hk, hx⟩ := hy
  subst eH
  exact ⟨Ex.refl _, valT (kV k), by simp [keysT, hk], hx⟩)
/-- for x in .. -/
theorem b_for {it tg : Expr} {g : TG} (Ok : Nat → Ctx → Prop) (hi : GI X Γ tg it Ts) (hg : PG X tg g) (h0 : Ok 0 Γ)
    (hs : ∀ (H1 : Hp) (i : Nat) (T : Ty) (Δ : Ctx), H0.ok H1 → Ts[i]? = some T → Ok i Δ → ∃ Δ2, Tgt g T Δ Δ2 ∧ Bd X Δ2 body (H0.at H1) (turnD D X rest (H0.at H1) (Ok (i + 1))))
    (hd : ∀ Δ, Ok Ts.length Δ → Bd X Δ rest H0 D) (hc : X.calm = true := by rfl) (hp : PassesOwn (model X.prog X.w) X.A X.env X.xe := by exact PassesOwn.never) (hf : ∀ x, foldedSetIterable it X.env x = pure x := by intro _; rfl) : Bd X Γ (.For tg it body [] pos :: rest) H0 D :=
  b_cons fun σ H e0 t => toS (ps_for hp hc pi hg (pb body) hf) (hi σ H t _ fun J H1 e1 tn => by
    have b1 : H0.ok H1 := Bs.up e0 e1
    refine ⟨fun i m σ H => i ≤ Ts.length ∧ m = Ts.length - i ∧ ∃ Δ, Ok i Δ ∧ (H0.at H1).ok H ∧ Typed σ Δ H, ⟨_, Nat.zero_le _, rfl, Γ, h0, Bs.here b1, t.up e1⟩, ?_⟩
    rintro i m σ H ⟨hi, rfl, Δ, ok, e2, t2⟩
    obtain ⟨t3, t4⟩ := tn i H e2.2
    by_cases c : i < Ts.length
    · obtain ⟨go, yl⟩ := t3 c
      refine .inr ⟨go, fun σ H => ∃ Δ, Ok (i + 1) Δ ∧ (H0.at H1).ok H ∧ Typed σ Δ H, fun σ' H' h => ⟨Ts.length - (i + 1), by omega, by omega, rfl, h⟩, fun x H' hy => ?_⟩
      obtain ⟨e3, T, hT, hx⟩ := yl x H' hy
      obtain ⟨Δ2, tg, bd⟩ := hs H1 i T Δ b1 hT ok
      exact tg x σ H' _ hx (t2.up e3) fun σ2 t3 => bd σ2 H' (Bs.up e2 e3) t3
    · have hi' : i = Ts.length := by omega
      refine .inl ⟨t4 hi', ?_⟩
      rw [hi'] at ok
      exact hd Δ ok σ H (Bs.back b1 e2) t2)

/-! ### comprehensions -/
/-- what the block of a comprehension is run in, whatever the block's own addresses are -/
def GC (X : Cx) (scope : Scope) (Γ : Ctx) (e : Expr) (T : Ty) : Prop := ∀ (s : Shared) (H : Hp) (C : Addr) (cl : List (Str × Addr)) (fp : List Addr), G (X.blk s H scope (compEnvC scope cl C X.env) fp) Γ e T
def GCTs (X : Cx) (scope : Scope) (Γ : Ctx) (ifs : List Expr) (b : Bool) : Prop := ∀ (s : Shared) (H : Hp) (C : Addr) (cl : List (Str × Addr)) (fp : List Addr) σ H1, Typed σ Γ H1 → ∀ Q : Bool → Hp → Prop, (∀ H', Ex H1 H' → Q b H') → tTs (X.blk s H scope (compEnvC scope cl C X.env) fp) ifs σ H1 Q
theorem gct_nil {scope : Scope} : GCTs X scope Γ [] true := fun s H C cl fp σ H1 t Q q => toTs pts_nil (q H1 (Ex.refl H1))
theorem gct_one {scope : Scope} {k : Bool} (h : ∀ (s : Shared) (H : Hp) (C : Addr) (cl : List (Str × Addr)) (fp : List Addr), GT (X.blk s H scope (compEnvC scope cl C X.env) fp) Γ c k) : GCTs X scope Γ [c] k := fun s H C cl fp σ H1 t Q q => toTs (pts_one (pt c)) (h s H C cl fp σ H1 t Q q)
/-- what is kept of the items, from the left -/
def keptT : List (Option Ty) → List Ty := fun l => l.filterMap id
theorem keptT_take {l : List (Option Ty)} {i : Nat} {o : Option Ty} (h : l[i]? = some o) : keptT (l.take (i + 1)) = keptT (l.take i) ++ o.toList := by
  unfold keptT
  rw [List.take_succ, h, List.filterMap_append]
  cases o <;> rfl
theorem keptT_stb {l : List (Option Ty)} (h : ∀ R, some R ∈ l → Stb R) (i : Nat) : Stbs (keptT (l.take i)) := stbs_of fun T hT => by
  obtain ⟨o, ho, e⟩ := List.mem_filterMap.mp hT
  have e' : o = some T := e
  subst e'
  exact h T (List.mem_of_mem_take ho)
theorem keptT_len (l : List (Option Ty)) (i : Nat) : (keptT (l.take i)).length ≤ i := Nat.le_trans (List.length_filterMap_le _ _) (by rw [List.length_take]; exact Nat.min_le_left _ _)
/-- the block's element, test and target as readings -/
def tCE (X : Cx) (scope : Scope) (e : Expr) : TE := fun σ H1 Q => ∀ (s : Shared) (H : Hp) (C : Addr) (cl : List (Str × Addr)) (fp : List Addr), tE (X.blk s H scope (compEnvC scope cl C X.env) fp) e σ H1 Q
def tCT (X : Cx) (scope : Scope) (ifs : List Expr) : TT := fun σ H1 Q => ∀ (s : Shared) (H : Hp) (C : Addr) (cl : List (Str × Addr)) (fp : List Addr), tTs (X.blk s H scope (compEnvC scope cl C X.env) fp) ifs σ H1 Q
/-- a target whose names are the block's own -/
def OwnTgt (g : TG) (own : List (Str × Nat)) : Prop := ∀ v σ H (Q : L2.St → Hp → Prop), g v (L2.wipe σ (own.map (·.2))) H Q → g v (L2.wipe σ (own.map (·.2))) H fun σ2 H2 => L2.wipe σ2 (own.map (·.2)) = L2.wipe σ (own.map (·.2)) ∧ Q σ2 H2
theorem own_name {y : Str} {i : Nat} : OwnTgt (gName i) [(y, i)] := fun v σ H Q h => ⟨by show ((σ.set i none).set i (some v)).set i none = σ.set i none; rw [List.set_set, List.set_set], h⟩
theorem own_tup2 {K : PySem.W.Frag} {y z : Str} {i j : Nat} (hij : i ≠ j) : OwnTgt (gTup K 2 (gCons (gName i) (gCons (gName j) gNil))) [(y, i), (z, j)] := fun v σ H Q h => by
  obtain ⟨a, xs, ev, ht, hl, v1, r1, e1, v2, r2, e2, e3, q⟩ := h
  refine ⟨a, xs, ev, ht, hl, v1, r1, e1, v2, r2, e2, e3, ?_, q⟩
  show (((((σ.set j none).set i none).set i (some v1)).set j (some v2)).set j none).set i none = (σ.set j none).set i none
  apply List.ext_getElem?
  intro n
  simp only [List.getElem?_set, List.length_set]
  by_cases h1 : i = n <;> by_cases h2 : j = n <;> simp_all
/-- [elt for tg in .. if ..]; rs tells for each item what is kept -/
theorem g_lcU {elt tg iter : Expr} {ifs : List Expr} {scope : Scope} {own : List (Str × Nat)} {g : TG} (rs : List (Option Ty)) (hi : GI X Γ tg iter Ts) (ok : BlkOk X.N X.env.scope scope own)
    (hg : ∀ (s : Shared) (H : Hp) (C : Addr) (cl : List (Str × Addr)) (fp : List Addr), PG (X.blk s H scope (compEnvC scope cl C X.env) fp) tg g)
    (hl : rs.length = Ts.length) (hz : Ts.length ≤ sizeLine)
    (hw : ∀ (i : Nat) (T : Ty), Ts[i]? = some T → ∃ Δ2, Tgt g T ((own.map (·.2)).foldr (fun v G => G.set v none) Γ) Δ2 ∧
      ((rs[i]? = some none ∧ GCTs X scope Δ2 ifs false) ∨ ∃ R, rs[i]? = some (some R) ∧ GCTs X scope Δ2 ifs true ∧ GC X scope Δ2 elt R))
    (hS : ∀ R, some R ∈ rs → Stb R)
    (hwipe : OwnTgt g own)
    (hc : X.calm = true := by rfl) (hN : X.N.Nodup := by first | assumption | decide) (hf : ∀ x, foldedSetIterable iter X.env x = pure x := by intro _; rfl) {σ : L2.St} {H : Hp} (t : Typed σ Γ H) {Q : VK}
    (q : ∀ D H' acc, Ex H H' → H D = none → H' D = some (.lst acc) → All2 (keptT rs) acc H' → Q (.ref D) H') : tE X (.ListComp elt [⟨tg, iter, ifs, 0⟩] scope pos) σ H Q := by
  refine toE (pe_lc (te := tCE X scope elt) (tt := tCT X scope ifs) (own := own) hc hN pi ok hg (fun s H C cl fp => ⟨fun pins s' σ H1 Q I h => (h s H C cl fp).run pins s' I⟩) (fun s H C cl fp => ⟨fun pins s' σ H1 Q I h => (h s H C cl fp).run pins s' I⟩) hf) ?_
  refine hi σ H t _ fun J H1 e1 tn => ?_
  intro Da hD
  have e1D : Ex H1 (upd H1 Da (.lst [])) := Ex.new hD
  refine ⟨fun i m H' => i ≤ Ts.length ∧ m = Ts.length - i ∧ Ex H1 H' ∧ ∃ acc, H' Da = some (.lst acc) ∧ All2 (keptT (rs.take i)) acc H', ⟨_, Nat.zero_le _, rfl, e1D, [], upd_same, by simp [keptT, All2]⟩, ?_⟩
  rintro i m H' ⟨hi', rfl, e2, acc, hacc, hA⟩
  obtain ⟨t3, t4⟩ := tn i H' e2.le
  by_cases c : i < Ts.length
  · obtain ⟨go, yl⟩ := t3 c
    refine .inr ⟨go, fun H' => Ex H1 H' ∧ ∃ acc, H' Da = some (.lst acc) ∧ All2 (keptT (rs.take (i + 1))) acc H', fun H' h => ⟨Ts.length - (i + 1), by omega, by omega, rfl, h⟩, fun v Hy hy => ?_⟩
    obtain ⟨ey, T, hT, hv⟩ := yl v Hy hy
    obtain ⟨Δ2, tg, alt⟩ := hw i T hT
    have tσ : Typed (L2.wipe σ (own.map (·.2))) ((own.map (·.2)).foldr (fun v G => G.set v none) Γ) Hy := Typed.wipe _ (t.up ((e1.trans e2).trans ey))
    refine hwipe v σ Hy _ (tg v _ Hy _ hv tσ fun σ2 t2 => ?_)
    have hlen : acc.length < sizeLine := by
      rw [← hA.len]
      exact Nat.lt_of_le_of_lt (keptT_len rs i) (Nat.lt_of_lt_of_le c hz)
    rcases alt with ⟨hr, hT⟩ | ⟨R, hr, hT, hE⟩
    · intro s0 H0 C cl fp
      refine hT s0 H0 C cl fp σ2 Hy t2 _ fun H3 e3 => ?_
      refine iteF ⟨e2.trans (ey.trans e3), acc, e3 _ _ (ey _ _ hacc), ?_⟩
      rw [keptT_take hr]
      simpa using hA.up (ey.trans e3)
    · intro s0 H0 C cl fp
      refine hT s0 H0 C cl fp σ2 Hy t2 _ fun H3 e3 => iteT ?_
      intro s1 H1' C1 cl1 fp1
      refine hE s1 H1' C1 cl1 fp1 σ2 H3 (t2.up e3) _ fun y H4 e4 hy => ⟨acc, e4 _ _ (e3 _ _ (ey _ _ hacc)), hlen, (e2.trans (ey.trans (e3.trans e4))).mut hD, acc ++ [y], upd_same, ?_⟩
      rw [keptT_take hr]
      have hm := Le.mut (o := .lst (acc ++ [y])) (e4 _ _ (e3 _ _ (ey _ _ hacc))) trivial
      exact All2.append ((keptT_stb hS i).le ((ey.trans (e3.trans e4)).le.trans hm) hA) ⟨(hS R (List.mem_of_getElem? hr)).le hm hy, trivial⟩
  · have hi2 : i = Ts.length := by omega
    refine .inl ⟨t4 hi2, ?_⟩
    rw [hi2, ← hl, List.take_length] at hA
    exact q Da H' acc (e1.trans e2) (e1.free hD) hacc hA
/-- the same, the list frozen at once -/
theorem g_lc {elt tg iter : Expr} {ifs : List Expr} {scope : Scope} {own : List (Str × Nat)} {g : TG} (rs : List (Option Ty)) (hi : GI X Γ tg iter Ts) (ok : BlkOk X.N X.env.scope scope own)
    (hg : ∀ (s : Shared) (H : Hp) (C : Addr) (cl : List (Str × Addr)) (fp : List Addr), PG (X.blk s H scope (compEnvC scope cl C X.env) fp) tg g)
    (hl : rs.length = Ts.length) (hz : Ts.length ≤ sizeLine)
    (hw : ∀ (i : Nat) (T : Ty), Ts[i]? = some T → ∃ Δ2, Tgt g T ((own.map (·.2)).foldr (fun v G => G.set v none) Γ) Δ2 ∧
      ((rs[i]? = some none ∧ GCTs X scope Δ2 ifs false) ∨ ∃ R, rs[i]? = some (some R) ∧ GCTs X scope Δ2 ifs true ∧ GC X scope Δ2 elt R))
    (hS : ∀ R, some R ∈ rs → Stb R)
    (hwipe : OwnTgt g own) {T' : Ty} (hR : lstT (keptT rs) = T')
    (hc : X.calm = true := by rfl) (hN : X.N.Nodup := by first | assumption | decide) (hf : ∀ x, foldedSetIterable iter X.env x = pure x := by intro _; rfl) : G X Γ (.ListComp elt [⟨tg, iter, ifs, 0⟩] scope pos) T' := hR ▸ fun σ H t Q q =>
  tE_frz (g_lcU rs hi ok hg hl hz hw hS hwipe hc hN hf t fun D H' acc e hD hacc hA => ⟨D, _, hacc, trivial, fun od => q _ _ (e.mut hD) ⟨D, acc, rfl, ⟨od, upd_same⟩, by
    have z := keptT_stb hS rs.length
    rw [List.take_length] at z
    exact z.le (Le.mut hacc trivial) hA⟩⟩)
/-- {k: v for tg in .. if ..}; rs tells for each item what is kept -/
theorem g_dcU {kx vx tg iter : Expr} {ifs : List Expr} {scope : Scope} {own : List (Str × Nat)} {g : TG} (rs : List (Option (Key × V))) (hi : GI X Γ tg iter Ts) (ok : BlkOk X.N X.env.scope scope own)
    (hg : ∀ (s : Shared) (H : Hp) (C : Addr) (cl : List (Str × Addr)) (fp : List Addr), PG (X.blk s H scope (compEnvC scope cl C X.env) fp) tg g)
    (hl : rs.length = Ts.length) (hz : Ts.length ≤ sizeLine)
    (hw : ∀ (i : Nat) (T : Ty), Ts[i]? = some T → ∃ Δ2, Tgt g T ((own.map (·.2)).foldr (fun v G => G.set v none) Γ) Δ2 ∧
      ((rs[i]? = some none ∧ GCTs X scope Δ2 ifs false) ∨ ∃ k v, rs[i]? = some (some (k, v)) ∧ GCTs X scope Δ2 ifs true ∧ GC X scope Δ2 kx (valT (kV k)) ∧ GC X scope Δ2 vx (valT v)))
    (hwipe : OwnTgt g own) (hnd : ((rs.filterMap id).map (·.1)).Nodup)
    (hc : X.calm = true := by rfl) (hN : X.N.Nodup := by first | assumption | decide) (hf : ∀ x, foldedSetIterable iter X.env x = pure x := by intro _; rfl) {σ : L2.St} {H : Hp} (t : Typed σ Γ H) {Q : VK}
    (q : ∀ D H', Ex H H' → H D = none → H' D = some (.dK (rs.filterMap id)) → Q (.ref D) H') : tE X (.DictComp kx vx [⟨tg, iter, ifs, 0⟩] scope pos) σ H Q := by
  refine toE (pe_dc (tk := tCE X scope kx) (tv := tCE X scope vx) (tt := tCT X scope ifs) (own := own) hc hN pi ok hg (fun s H C cl fp => ⟨fun pins s' σ H1 Q I h => (h s H C cl fp).run pins s' I⟩) (fun s H C cl fp => ⟨fun pins s' σ H1 Q I h => (h s H C cl fp).run pins s' I⟩) (fun s H C cl fp => ⟨fun pins s' σ H1 Q I h => (h s H C cl fp).run pins s' I⟩) hf) ?_
  refine hi σ H t _ fun J H1 e1 tn => ?_
  intro Da hD
  have e1D : Ex H1 (upd H1 Da (.dK [])) := Ex.new hD
  refine ⟨fun i m H' => i ≤ Ts.length ∧ m = Ts.length - i ∧ Ex H1 H' ∧ H' Da = some (.dK ((rs.take i).filterMap id)), ⟨_, Nat.zero_le _, rfl, e1D, upd_same⟩, ?_⟩
  rintro i m H' ⟨hi', rfl, e2, hacc⟩
  obtain ⟨t3, t4⟩ := tn i H' e2.le
  by_cases c : i < Ts.length
  · obtain ⟨go, yl⟩ := t3 c
    refine .inr ⟨go, fun H' => Ex H1 H' ∧ H' Da = some (.dK ((rs.take (i + 1)).filterMap id)), fun H' h => ⟨Ts.length - (i + 1), by omega, by omega, rfl, h⟩, fun v Hy hy => ?_⟩
    obtain ⟨ey, T, hT, hv⟩ := yl v Hy hy
    obtain ⟨Δ2, tg, alt⟩ := hw i T hT
    have tσ : Typed (L2.wipe σ (own.map (·.2))) ((own.map (·.2)).foldr (fun v G => G.set v none) Γ) Hy := Typed.wipe _ (t.up ((e1.trans e2).trans ey))
    refine hwipe v σ Hy _ (tg v _ Hy _ hv tσ fun σ2 t2 => ?_)
    have hlen : ((rs.take i).filterMap id).length < sizeLine :=
      Nat.lt_of_le_of_lt (Nat.le_trans (List.length_filterMap_le _ _) (by rw [List.length_take]; exact Nat.min_le_left _ _)) (Nat.lt_of_lt_of_le c hz)
    rcases alt with ⟨hr, hT⟩ | ⟨k, y, hr, hT, hK, hE⟩
    · intro s0 H0 C cl fp
      refine hT s0 H0 C cl fp σ2 Hy t2 _ fun H3 e3 => ?_
      refine iteF ⟨e2.trans (ey.trans e3), ?_⟩
      rw [List.take_succ, hr, List.filterMap_append]
      simpa using e3 _ _ (ey _ _ hacc)
    · intro s0 H0 C cl fp
      refine hT s0 H0 C cl fp σ2 Hy t2 _ fun H3 e3 => iteT ?_
      intro s1 H1' C1 cl1 fp1
      refine hK s1 H1' C1 cl1 fp1 σ2 H3 (t2.up e3) _ fun y1 H4 e4 hy1 => ?_
      intro s2 H2' C2 cl2 fp2
      refine hE s2 H2' C2 cl2 fp2 σ2 H4 (t2.up (e3.trans e4)) _ fun y2 H5 e5 hy2 => ?_
      have hy1' : y1 = kV k := hy1
      have hy2' : y2 = y := hy2
      subst hy1'; subst hy2'
      refine ⟨_, k, rfl, e5 _ _ (e4 _ _ (e3 _ _ (ey _ _ hacc))), hlen, (e2.trans (ey.trans (e3.trans (e4.trans e5)))).mut hD, ?_⟩
      rw [upd_same, List.take_succ, hr, List.filterMap_append]
      have hnew : valV ((rs.take i).filterMap id) k = none := by
        have hrs : rs = rs.take i ++ some (k, y2) :: rs.drop (i + 1) := by
          have hlt : i < rs.length := by rw [hl]; exact c
          have e := List.take_append_drop i rs
          rw [List.drop_eq_getElem_cons hlt] at e
          have hg : rs[i] = some (k, y2) := by rw [List.getElem?_eq_getElem hlt] at hr; exact Option.some.inj hr
          rw [hg] at e
          exact e.symm
        rw [hrs, List.filterMap_append, List.map_append] at hnd
        have hdis := (List.nodup_append.mp hnd).2.2
        cases hq : valV ((rs.take i).filterMap id) k with
        | none => rfl
        | some z =>
          have hin := valV_in hq
          exact absurd rfl (hdis k (by simpa using hin) k (by simp))
      rw [putK_new _ hnew]
      rfl
  · have hi2 : i = Ts.length := by omega
    refine .inl ⟨t4 hi2, ?_⟩
    rw [hi2, ← hl, List.take_length] at hacc
    exact q Da H' (e1.trans e2) (e1.free hD) hacc
end
end RL

set_option Elab.async false
set_option linter.all false
set_option maxRecDepth 100000
set_option maxHeartbeats 8000000
/-! RLset: set(list of ints), and sorted(set(..)) as one expression -/
namespace RL
open PySem PySem.Spec PyProof.Rows L2
section
variable {P : Program} {w : World} {A : Around} {E : Value → Shared → Prop} {s : Shared}
/-- the empty set's object -/
abbrev set0 (w : World) : Obj := { cls := .type "set", dict := none, data := .set #[] 0 (.fresh 0 0 (!w.params.followText "set-order")) }
/-- the loop that fills a fresh set, over a list that stands -/
theorem fill_list {l : Addr} {items : Array Value} (ns : List Int) {R : Result → Shared → Prop} (hh : A.handled = none) (hl : s.heap.IsList l items) (hit : IntsAre items.toList ns) (hb : ns.length + 1 < scanBound)
    (h : ∀ (h' : Heap) (tk c : Nat), SetR w h' s.heap.objs.size (fun j => decide (j ∈ ns)) c → c ≤ ns.length → (∀ b o, s.heap.get? b = some o → h'.get? b = some o) → R (.ok (.ret .none)) { s with heap := h', toks := tk }) :
    codeAny (model P w) A (.builtin "set.update.loop" ⟨[.ref s.heap.objs.size, .ref (s.heap.objs.size + 1)], []⟩) R
      { s with heap := (s.heap.push (set0 w)).push { cls := .type "list_iterator", data := .fields #[.ref l, .int 0 0] } } := by
  have hn : items.size = ns.length := by have q := IntsAre.length hit; rwa [Array.length_toList] at q
  obtain ⟨ol, hol, hcl, nl, hdl⟩ := id hl
  have hlS : l < s.heap.objs.size := Heap.lt_size hol
  have z1 : (s.heap.push (set0 w)).objs.size = s.heap.objs.size + 1 := Heap.size_push ..
  have hS : ((s.heap.push (set0 w)).push { cls := .type "list_iterator", data := .fields #[.ref l, .int 0 0] }).get? s.heap.objs.size = some (set0 w) := Heap.get?_push_of_some _ (Heap.get?_push_size _ rfl)
  have hL : ((s.heap.push (set0 w)).push { cls := .type "list_iterator", data := .fields #[.ref l, .int 0 0] }).IsList l items := ⟨ol, Heap.get?_push_of_some _ (Heap.get?_push_of_some _ hol), hcl, nl, hdl⟩
  have hI : ((s.heap.push (set0 w)).push { cls := .type "list_iterator", data := .fields #[.ref l, .int 0 0] }).get? (s.heap.objs.size + 1) = some { cls := .type "list_iterator", data := .fields #[.ref l, .int 0 0] } := by
    rw [← z1]; exact Heap.get?_push_size _ rfl
  have hval : ∀ (i : Nat) (v : Value), items[i]? = some v → ∃ k t, ns[i]? = some k ∧ v = .int k t := fun i v hv => by
    have hi : i < ns.length := hn ▸ (Array.getElem?_eq_some_iff.mp hv).1
    obtain ⟨t, e⟩ := PyProof.Rows.IntsAre.int_at hit i v (by rw [Array.getElem?_toList]; exact hv)
    exact ⟨ns[i], t, List.getElem?_eq_getElem hi, by rw [e, List.getD_eq_getElem?_getD, List.getElem?_eq_getElem hi] <;> rfl⟩
  have W := (Walks.list (prog := P) (w := w) (A := A.in1) hh (s.heap.objs.size + 1) l (Nat.ne_of_lt (Nat.lt_succ_of_lt hlS)) items).toS
  refine set_update_ints W s.heap.objs.size (by simp only [List.mem_cons, List.not_mem_nil, or_false, not_or]; exact ⟨Nat.ne_of_lt (Nat.lt_succ_self _), Nat.ne_of_gt hlS⟩) ns hn hb hval (items.size - 0) 0 _ rfl (Nat.zero_le _) ⟨⟨_, hI, rfl, rfl⟩, hL⟩ ⟨0, Nat.le_refl 0, setR_new_at hS⟩ fun s' c hm hc hR => ?_
  obtain ⟨h', g', d', tk', os'⟩ := s'
  obtain rfl : g' = s.gens := hm.gens
  obtain rfl : d' = s.drawn := hm.drawn
  obtain rfl : os' = s.os := hm.os
  refine h h' tk' c hR (hn ▸ hc) fun b o e => ?_
  have hb : b < s.heap.objs.size := Heap.lt_size e
  exact hm.heap b o (by simp only [List.mem_cons, List.not_mem_nil, or_false, not_or]; exact ⟨Nat.ne_of_lt hb, Nat.ne_of_lt (Nat.lt_succ_of_lt hb)⟩) (Heap.get?_push_of_some _ (Heap.get?_push_of_some _ e))
/-- set(l), l a list of ints -/
theorem set_of_list {l : Addr} {items : Array Value} (ns : List Int) {Q : Value → Shared → Prop} (hh : A.handled = none) (hl : s.heap.IsList l items) (hit : IntsAre items.toList ns) (hb : ns.length + 1 < scanBound)
    (h : ∀ (h' : Heap) (tk c : Nat), SetR w h' s.heap.objs.size (fun j => decide (j ∈ ns)) c → c ≤ ns.length → (∀ b o, s.heap.get? b = some o → h'.get? b = some o) → Q (.ref s.heap.objs.size) { s with heap := h', toks := tk }) :
    wpAny (model P w) A (call (.type "set") [.ref l]) Q E s := by
  obtain ⟨_, _, hmro⟩ := F.called_set.mro
  have c1 := F.called_set.made
  have c2 := F.called_set.sub
  have c3 := F.called_set.notType
  have c4 := F.called_set.canCreate
  have c5 := F.typeCall_set_1 (.ref l)
  refine wpAny_call (codeAny_of_tree ?_)
  show wpAny _ _ (callAny (.type "set") _) _ _ _
  refine wpAny_pure ⟨Code.quiet_builtin _ (by decide +kernel), codeAny_builtin F.entry_type_call ?_⟩
  rw [Around.under_plain (weight_type_call_type "set" [.ref l] []) rfl]
  repeat (any_goals (first | assumption | wp_step))
  refine codeAny_mono (code_set_led1 (.ref l) (E := E) (Q₁ := fun obj s₁ => obj = .ref s.heap.objs.size ∧ s₁ = { s with heap := s.heap.push (set0 w) }) ⟨rfl, rfl⟩) fun r s₁ hr => ?_
  match r, hr with
  | .error e, hr => exact hr
  | .ok (.ret obj), ⟨h1, h2⟩ =>
    subst h1; subst h2
    have hT : Shared.TypeIs { s with heap := s.heap.push (set0 w) } (.ref s.heap.objs.size) "set" := ⟨_, Heap.get?_push_size _ rfl, rfl⟩
    have i1 := F.called_set.init.lookup
    have i2 := F.called_set.init.bind (.ref s.heap.objs.size)
    repeat (any_goals (first | assumption | wp_step))
    refine codeAny_mono (codeAny_call_builtin (R := wants (fun r s₂ => r = .none ∧ Q (.ref s.heap.objs.size) s₂) E) F.called_set.init.plain F.entry_set_init (check_set_init_1 hT ?_)) fun r₂ s₂ hr₂ => ?_
    · obtain ⟨⟨ocls, odict, odata, oslots⟩, hol, hcl, nl, hdl⟩ := id hl
      simp only at hcl hdl
      subst hcl; subst hdl
      have hol' : (s.heap.push (set0 w)).get? l = some { cls := .type "list", dict := odict, data := .seq items nl, slots := oslots } := Heap.get?_push_of_some _ hol
      have t1 := F.sub_list_set
      have t2 := F.sub_list_frozenset
      have t3 : (Value.type "list" == Value.type "dict") = false := by decide
      unfold Builtin.«set.__init__» noKeywords Builtin.Frozenset.updateFrom
      generalize hPI : pyIter = PI
      wp_walk
      subst hPI
      refine wpAny_pyIter_list ⟨_, hol', rfl, nl, rfl⟩ (wpAny_bind (wpAny_runValue ?_))
      have z1 : (s.heap.push (set0 w)).objs.size = s.heap.objs.size + 1 := Heap.size_push ..
      rw [z1]
      exact fill_list ns (by simp [hh]) hl hit hb fun h' tk c hR hc k => wpAny_pure (wpAny_pure ⟨rfl, h h' tk c hR hc k⟩)
    · match r₂, hr₂ with
      | .error e, hr₂ => exact hr₂
      | .ok (.ret r), ⟨h1, hq⟩ =>
        subst h1
        repeat (any_goals (first | assumption | wp_step))
end
end RL

set_option Elab.async false
set_option linter.all false
set_option maxRecDepth 100000
set_option maxHeartbeats 4000000
/-! RL3: a def by its body; dicts, sorted, own operators -/
namespace RL
open PySem PySem.Spec PyProof.Rows L2

/-! ### a def by its body -/
def ctx0 (N : List Str) (Ts : List Ty) : Ctx := Ts.map some ++ List.replicate (N.length - Ts.length) none
theorem typed0 {N : List Str} {Ts : List Ty} {vs : List V} {H : Hp} (h : All2 Ts vs H) : Typed (L2.start N vs) (ctx0 N Ts) H := by
  refine ⟨by simp [L2.start, ctx0, h.len], fun i T g => ?_⟩
  unfold ctx0 at g
  by_cases c : i < Ts.length
  · rw [List.getElem?_append_left (by simpa using c), List.getElem?_map, List.getElem?_eq_getElem c] at g
    obtain ⟨v, hv, tv⟩ := h.get (List.getElem?_eq_getElem c)
    refine ⟨v, ?_, ?_⟩
    · unfold L2.start
      rw [List.getElem?_append_left (by simpa [← h.len] using c), List.getElem?_map, hv]
      rfl
    · cases g
      exact tv
  · rw [List.getElem?_append_right (by simpa using c), List.getElem?_replicate] at g
    split at g <;> cases g
/-- the context of a def's body -/
abbrev BX (P : Program) (w : World) (K : PySem.W.Frag) (mg : Str → Option Value) (base : Heap) (N : List Str) (qual : Str) (scope : Scope) (f : Addr) (cd : Value) (A : Around) (outer : List Env) (s : Shared) (H : Hp) (E : XK) : Cx := (cxOf CX0 P w K mg base N qual scope f cd A outer s H E).nox
section
variable {P : Program} {w : World} {K : PySem.W.Frag} {mg : Str → Option Value} {base : Heap} {x qual : Str} {params : Arguments} {body : List Stmt} {scope : Scope} {dvs : List V} {kws : List (Str × V)} {f : Addr} {fd : FuncData} {N ps : List Str} {k : Nat}
/-- any promise, the body as a goal -/
theorem fn_sp {sp : Sp} (F : FunD K x qual params body scope dvs kws f fd) (S : FnScope N ps scope) (len : ∀ vs H Q E, sp vs H Q E → vs.length = ps.length)
    (h : ∀ cdv A outer s H vs Q E, Room k (A.deeper (envOfC qual scope s.heap.objs.size f cdv)) → sp vs H Q E → tB (BX P w K mg base N qual scope f cdv A outer s H E) body { nx := fun _ H' => Q .non H', rt := Q } (L2.start N vs) H) : FnOk P w K mg base CX0 (k + 1) f fd ps sp :=
  F.ok S len fun cdv A outer s H vs Q E hr hs => ⟨_, (pb body).nox, h cdv A outer s H vs Q E hr hs⟩
theorem fn_G {α : Type} {A : α → List Ty} {R : α → Ty} (F : FunD K x qual params body scope dvs kws f fd) (S : FnScope N ps scope) (hl : ∀ a, (A a).length = ps.length)
    (h : ∀ a cdv Ar outer s H E, Room k (Ar.deeper (envOfC qual scope s.heap.objs.size f cdv)) → (BX P w K mg base N qual scope f cdv Ar outer s H E).N.Nodup → ∀ D : Ends, (∀ v H', (Bs.of H).ok H' → R a v H' → D.rt v H') → (∀ σ H', (Bs.of H).ok H' → R a .non H' → D.nx σ H') → Bd (BX P w K mg base N qual scope f cdv Ar outer s H E) (ctx0 N (A a)) body (Bs.of H) D) :
    FnOk P w K mg base CX0 (k + 1) f fd ps (spG A R) :=
  fn_sp F S (fun vs H Q E ⟨a, h2, _⟩ => by rw [← h2.len]; exact hl a) fun cdv Ar outer s H vs Q E hr ⟨a, h2, q⟩ => h a cdv Ar outer s H E hr S.nd _ (fun v H' e hv => q v H' e.1 hv) (fun _ H' e hv => q _ H' e.1 hv) _ H (Bs.refl H) (typed0 h2)
end

/-! ### operations on values -/
section
variable {X : Cx} {Γ : Ctx} {e o a b c : Expr} {es : List Expr} {T U : Ty} {Ts Us : List Ty} {pos p p2 apos : Pos} {x m : Str}
/-- what a call of a built-in gives, by its rule -/
theorem g_callB {id : String} {r : List V → Hp → VK → Prop} (hc : CallR X (.builtin id) r) (hm : X.mg x = none) (hv : bootBuiltins x = some (.builtin id)) (ha : GA X Γ (e :: es) Ts) (hr : ∀ vs H, All2 Ts vs H → ∀ Q : VK, (∀ v H', Ex H H' → U v H' → Q v H') → r vs H Q)
    (hg : Gl X x := by rfl) (hn : x ≠ "__name__" := by decide) (hdb : (x == ("__debug__" : Str)) = false := by decide) (he : starEach (e :: es) X.env = (false, eval e X.env) :: starEach es X.env := by first | exact se_cons rfl | exact se_one rfl | exact se_two rfl rfl | rfl) (hpl : (backTo pos (starEach es X.env)).any (·.1) = false := by first | exact se_any rfl | rfl) : G X Γ (.Call (.Name x p) (e :: es) [] pos) U := fun σ H t Q q =>
  toE (pe_callB hc hg hm hv (pa _) hn hdb he hpl) (ha σ H t _ fun vs H1 e1 h1 => hr vs H1 h1 Q fun v H2 e2 h2 => q v H2 (e1.trans e2) h2)
theorem g_callTy {id : String} {r : List V → Hp → VK → Prop} (hc : CallR X (.type id) r) (hm : X.mg x = none) (hv : bootBuiltins x = some (.type id)) (ha : GA X Γ (e :: es) Ts) (hr : ∀ vs H, All2 Ts vs H → ∀ Q : VK, (∀ v H', Ex H H' → U v H' → Q v H') → r vs H Q)
    (hg : Gl X x := by rfl) (hn : x ≠ "__name__" := by decide) (hdb : (x == ("__debug__" : Str)) = false := by decide) (he : starEach (e :: es) X.env = (false, eval e X.env) :: starEach es X.env := by first | exact se_cons rfl | exact se_one rfl | exact se_two rfl rfl | rfl) (hpl : (backTo pos (starEach es X.env)).any (·.1) = false := by first | exact se_any rfl | rfl) : G X Γ (.Call (.Name x p) (e :: es) [] pos) U := fun σ H t Q q =>
  toE (pe_callTy hc hg hm hv (pa _) hn hdb he hpl) (ha σ H t _ fun vs H1 e1 h1 => hr vs H1 h1 Q fun v H2 e2 h2 => q v H2 (e1.trans e2) h2)
/-- .. a new list, frozen at once -/
theorem g_callBL {id : String} {r : List V → Hp → VK → Prop} (hc : CallR X (.builtin id) r) (hm : X.mg x = none) (hv : bootBuiltins x = some (.builtin id)) (ha : GA X Γ (e :: es) Ts) (hr : ∀ vs H, All2 Ts vs H → ∀ Q : VK, (∀ ys q, H q = none → All2 Us ys H → Q (.ref q) (upd H q (.lst ys))) → r vs H Q)
    (hg : Gl X x := by rfl) (hn : x ≠ "__name__" := by decide) (hdb : (x == ("__debug__" : Str)) = false := by decide) (he : starEach (e :: es) X.env = (false, eval e X.env) :: starEach es X.env := by first | exact se_cons rfl | exact se_one rfl | exact se_two rfl rfl | rfl) (hpl : (backTo pos (starEach es X.env)).any (·.1) = false := by first | exact se_any rfl | rfl) : G X Γ (.Call (.Name x p) (e :: es) [] pos) (lstT Us) := fun σ H t Q q =>
  tE_frz (toE (pe_callB hc hg hm hv (pa _) hn hdb he hpl) (ha σ H t _ fun vs H1 e1 h1 => hr vs H1 h1 _ fun ys d hd h2 => ⟨d, _, upd_same, trivial, fun od => by
    rw [upd_upd]
    exact q _ _ (e1.trans (Ex.new hd)) ⟨d, ys, rfl, ⟨od, upd_same⟩, h2.up (Ex.new hd)⟩⟩))
theorem g_callTyL {id : String} {r : List V → Hp → VK → Prop} (hc : CallR X (.type id) r) (hm : X.mg x = none) (hv : bootBuiltins x = some (.type id)) (ha : GA X Γ (e :: es) Ts) (hr : ∀ vs H, All2 Ts vs H → ∀ Q : VK, (∀ ys q, H q = none → All2 Us ys H → Q (.ref q) (upd H q (.lst ys))) → r vs H Q)
    (hg : Gl X x := by rfl) (hn : x ≠ "__name__" := by decide) (hdb : (x == ("__debug__" : Str)) = false := by decide) (he : starEach (e :: es) X.env = (false, eval e X.env) :: starEach es X.env := by first | exact se_cons rfl | exact se_one rfl | exact se_two rfl rfl | rfl) (hpl : (backTo pos (starEach es X.env)).any (·.1) = false := by first | exact se_any rfl | rfl) : G X Γ (.Call (.Name x p) (e :: es) [] pos) (lstT Us) := fun σ H t Q q =>
  tE_frz (toE (pe_callTy hc hg hm hv (pa _) hn hdb he hpl) (ha σ H t _ fun vs H1 e1 h1 => hr vs H1 h1 _ fun ys d hd h2 => ⟨d, _, upd_same, trivial, fun od => by
    rw [upd_upd]
    exact q _ _ (e1.trans (Ex.new hd)) ⟨d, ys, rfl, ⟨od, upd_same⟩, h2.up (Ex.new hd)⟩⟩))
theorem vals2 {H : Hp} {x y : V} {vs : List V} (h : All2 [valT x, valT y] vs H) : vs = [x, y] := All2.vals (ws := [x, y]) h
theorem vals1' {H : Hp} {x : V} {vs : List V} (h : All2 [valT x] vs H) : vs = [x] := All2.vals (ws := [x]) h
theorem one2 {H : Hp} {vs : List V} (h : All2 [T] vs H) : ∃ v, vs = [v] ∧ T v H := by
  match vs, h with
  | [v], ⟨a, _⟩ => exact ⟨v, rfl, a⟩

/-! ### dicts that are frozen -/
theorem rd_dict {kvs : List (Key × V)} {v : V} {H : Hp} (h : dicT kvs v H) : ∃ a, v = .ref a ∧ Rd H a (.dK kvs) := by
  obtain ⟨a, o, ev, ha⟩ := h
  exact ⟨a, ev, .inr ⟨o, ha⟩⟩
/-- d.get(k, x) -/
theorem g_get2 {kvs : List (Key × V)} {k : Key} {f : Expr} {y : V} {cpos : Pos} (hu : X.A.units + 1 < cLine) (ho : G X Γ o (dicT kvs)) (hk : G X Γ e (valT (kV k))) (hf : G X Γ f (valT y)) (m : M2 X o "get" apos e f cpos) : G X Γ (.Call (.Attribute o "get" apos) [e, f] [] cpos) (valT ((valV kvs k).getD y)) := fun σ H t Q q =>
  toE (pe_dget2 hu (pe o) (pe e) (pe f) m) (ho σ H t _ fun v H1 e1 h1 => by
    obtain ⟨a, ev, ha⟩ := rd_dict h1
    refine ⟨a, ev, .inl ⟨kvs, ha⟩, hk σ H1 (t.up e1) _ fun u H2 e2 h2 => hf σ H2 (t.up (e1.trans e2)) _ fun z H3 e3 h3 => ?_⟩
    obtain ⟨a', ev', ha'⟩ := rd_dict ((dicT kvs).up (e2.trans e3) h1)
    rw [ev] at ev'; cases ev'
    have hz : z = y := h3
    subst hz
    exact ⟨_, .inl ⟨kvs, k, ha', h2, rfl⟩, q _ H3 (e1.trans (e2.trans e3)) rfl⟩)
/-- d[k], the key is there -/
theorem g_ixd {kvs : List (Key × V)} {k : Key} {y : V} (hu : X.A.units + 1 < cLine) (ho : G X Γ o (dicT kvs)) (hk : G X Γ e (valT (kV k))) (hy : valV kvs k = some y) (hs : NoSl e := by exact fun _ _ => rfl) : G X Γ (.Subscript o e pos) (valT y) := fun σ H t Q q =>
  toE (pe_dget hu (pe o) (pe e) hs) (ho σ H t _ fun v H1 e1 h1 => hk σ H1 (t.up e1) _ fun u H2 e2 h2 => by
    obtain ⟨a, ev, ha⟩ := rd_dict ((dicT kvs).up e2 h1)
    exact ⟨a, y, ev, .inl ⟨kvs, k, ha, h2, hy.symm⟩, q _ H2 (e1.trans e2) rfl⟩)
/-- l + l', both frozen -/
theorem op_catF : OpR X (binaryOp .Add) (fun v w H Q => ∃ l l' xs ys, v = .ref l ∧ w = .ref l' ∧ FrzL H l xs ∧ FrzL H l' ys ∧ xs.length + ys.length ≤ sizeLine ∧ ∀ q, H q = none → Q (.ref q) (upd H q (.lst (xs ++ ys)))) := by
  intro pins s σ H v w u u' Q I r r' h
  obtain ⟨l, l', xs, ys, ev, ew, ⟨o1, f1⟩, ⟨o2, f2⟩, hz, q⟩ := h
  subst ev; subst ew; cases r; cases r'
  obtain ⟨_, z1, is1, n1, v1, g1⟩ := I.hok l _ f1
  obtain ⟨_, z2, is2, n2, v2, g2⟩ := I.hok l' _ f2
  have s1 := v1.length
  have s2 := v2.length
  refine PySem.P.add_list g1 g2 ?_ (by simp only [List.size_toArray]; omega)
  rw [List.append_toArray]
  exact ⟨.ref _, _, I.lnew (t' := s.toks) (v1.append v2) (by rw [List.length_append]; exact hz), rfl, q _ I.fresh⟩
theorem g_cat (ha : G X Γ a (lstT Ts)) (hb : G X Γ b (lstT Us)) (hz : Ts.length + Us.length ≤ sizeLine) : G X Γ (.BinOp a .Add b pos) (lstT (Ts ++ Us)) := fun σ H t Q q =>
  tE_frz (toE (pe_op op_catF (pe a) (pe b)) (ha σ H t _ fun v H1 e1 h1 => hb σ H1 (t.up e1) _ fun u H2 e2 h2 => by
    obtain ⟨l, xs, ev, f1, a1⟩ := (lstT Ts).up e2 h1
    obtain ⟨l', ys, eu, f2, a2⟩ := h2
    refine ⟨l, l', xs, ys, ev, eu, f1, f2, by rw [← a1.len, ← a2.len]; exact hz, fun d hd => ⟨d, _, upd_same, trivial, fun od => ?_⟩⟩
    rw [upd_upd]
    exact q _ _ ((e1.trans e2).trans (Ex.new hd)) ⟨d, _, rfl, ⟨od, upd_same⟩, (a1.append a2).up (Ex.new hd)⟩))
/-- list(d), d frozen -/
theorem cr_listF (hc : X.calm = true) : CallR X (.type "list") (fun vs H Q => ∃ d o kvs, vs = [V.ref d] ∧ H d = some (.frz o (.dK kvs)) ∧ ∀ q, H q = none → Q (.ref q) (upd H q (.lst (kvs.map fun z => kV z.1)))) := by
  intro pins s σ H vs us Q I r h
  obtain ⟨d, o, kvs, ev, hd, q⟩ := h
  subst ev
  match us, r with
  | [u], .cons ru .nil =>
    obtain rfl : u = Value.ref d := ru
    obtain ⟨_, z, lo, ws, rk, hat⟩ := I.hok d _ hd
    obtain ⟨ep, hat⟩ := Heap.DictOf.dictAt hat
    have hn : kvs.length = ws.length := Paired.length rk
    refine PySem.W.kdl_call (PySem.W.kdl_dict (knd := mixKind X.prog X.w) (kvs := ws) (ep := ep) lo) (I.ok.hd hc) hat (by rw [← hn]; exact z) fun h' tk its c keep hS hits => ?_
    have hlen : (kvs.map fun z => kV z.1).length = its.toList.length := by
      have z2 : its.toList.length = its.size := by simp
      rw [z2, hits.1, List.length_map, hn]
    have vals : Vals (kvs.map fun z => kV z.1) its.toList := by
      refine vals_of_at hlen fun j v w h1 h2 => ?_
      obtain ⟨k, y, hky, hi⟩ := hits.2 j w (by rw [← Array.getElem?_toList]; exact h2)
      have e1 : (kvs.map (·.1))[j]? = some k := by rw [KV.keys rk, List.getElem?_map, hky]; rfl
      rw [List.getElem?_map] at e1 h1
      cases hj : kvs[j]? with
      | none => rw [hj] at e1; cases e1
      | some z =>
        rw [hj] at e1 h1
        cases e1; cases h1
        exact keyIs_rel hi
    exact ⟨.ref _, _, I.laid keep (Nat.le_refl _) (show ObjOk X.prog X.w _ _ _ (.lst _) from ⟨by rw [List.length_map]; exact z, its.toList, c, vals, by rw [Array.toArray_toList]; exact hS⟩), rfl, q _ (I.hok.fresh (Nat.le_refl _))⟩
theorem g_listD {kvs : List (Key × V)} (h : G X Γ e (dicT kvs)) (hm : X.mg "list" = none) (hc : X.calm = true := by rfl) (hg : Gl X "list" := by rfl) (he : starEach [e] X.env = (false, eval e X.env) :: starEach [] X.env := by first | exact se_cons rfl | exact se_one rfl | exact se_two rfl rfl | rfl) : G X Γ (.Call (.Name "list" p) [e] [] pos) (lstT (kvs.map fun z => valT (kV z.1))) :=
  g_callTyL (cr_listF hc) hm (by decide +kernel) (ga_cons h ga_nil he) (fun vs H h2 Q q => by
    obtain ⟨v, ev, d, o, e2, hd⟩ := one2 h2
    subst ev; subst e2
    exact ⟨d, o, kvs, rfl, hd, fun p hp => q _ p hp (by have z := All2.of_vals (H := H) (ws := kvs.map fun z => kV z.1); rwa [List.map_map] at z)⟩) hg (he := he)
/-- sorted(d), d a frozen dict of ints -/
theorem g_sortedD {kvs : List (Key × V)} {ks : List Int} (h : G X Γ e (dicT kvs)) (hm : X.mg "sorted" = none) (hk : kvs.map (·.1) = ks.map Sum.inl) (h64 : ks.length < 64) (ys : List Int) (hy : ∀ zs : List Int, zs.Perm ks → zs.Pairwise (· ≤ ·) → zs = ys) (hc : X.calm = true := by rfl) (hg : Gl X "sorted" := by rfl) (he : starEach [e] X.env = (false, eval e X.env) :: starEach [] X.env := by first | exact se_cons rfl | exact se_one rfl | exact se_two rfl rfl | rfl) :
    G X Γ (.Call (.Name "sorted" p) [e] [] pos) (lstT (ys.map fun z => intT z)) :=
  g_callBL (call_sortedDI hc) hm (by decide +kernel) (ga_cons h ga_nil he) (fun vs H h2 Q q => by
    obtain ⟨v, ev, h3⟩ := one2 h2
    obtain ⟨a, e2, ha⟩ := rd_dict h3
    subst ev; subst e2
    refine ⟨a, kvs, ks, rfl, ha, hk, h64, fun zs p hp hs hn => ?_⟩
    rw [hy zs hp hs]
    exact q _ p hn (by have z := All2.of_vals (H := H) (ws := ys.map V.int); rwa [List.map_map] at z)) hg (he := he)
/-- all(l), l a frozen list of truth values -/
theorem g_all {bs : List Bool} (h : G X Γ e (lstT (bs.map fun k => blT k))) (hm : X.mg "all" = none) (hc : X.calm = true := by rfl) (hg : Gl X "all" := by rfl) (he : starEach [e] X.env = (false, eval e X.env) :: starEach [] X.env := by first | exact se_cons rfl | exact se_one rfl | exact se_two rfl rfl | rfl) : G X Γ (.Call (.Name "all" p) [e] [] pos) (blT (bs.all id)) :=
  g_callB (cr_all hc) hm (by decide +kernel) (ga_cons h ga_nil he) (fun vs H h2 Q q => by
    obtain ⟨v, ev, a, ws, e2, f, h3⟩ := one2 h2
    subst ev; subst e2
    have z : ws = bs.map V.bl := All2.vals (H := H) (by rw [List.map_map]; exact h3)
    subst z
    exact ⟨a, bs, rfl, f.sq, q _ H (Ex.refl H) rfl⟩) hg (he := he)
end
end RL

set_option Elab.async false
set_option linter.all false
set_option maxRecDepth 100000
set_option maxHeartbeats 4000000
/-! RL4: own operators and own equality, of classes of which one may descend from another -/
namespace RL
open PySem PySem.Spec L2 PySem.W
/-- what two classes must have that their number slots go by a def of the text: nm "mul" .. -/
structure NumOp (K : Frag) (Cs : Addr → Prop) (nm : String) : Prop where
  first : ∀ C, Cs C → selfFirst K C = true
  noR : ∀ C, Cs C → findIn K (.ref C) (dunderR nm) = some none
  sub : ∀ C D, Cs C → Cs D → C ≠ D → ∃ r, subIn K (.ref D) (.ref C) = some r
theorem inst_up {h h' : Heap} {x C : Addr} {ox : Obj} {od : Option Obj} (k : ∀ b o, h.get? b = some o → h'.get? b = some o) (I : InstAt h x ox C od) : InstAt h' x ox C od := by
  obtain ⟨h1, h2, h3, h4⟩ := I
  refine ⟨k _ _ h1, h2, h3, ?_⟩
  obtain ⟨c, dct, dat, sl⟩ := ox
  cases dct with
  | none =>
    cases od with
    | none => trivial
    | some o => exact h4
  | some d =>
    cases od with
    | none => exact h4
    | some o => exact k _ _ h4
section
variable {prog : Program} {w : World} {A : Around} {E : Value → Shared → Prop} {s : Shared} {K : Frag} {x y C D f : Addr} {ox oy : Obj} {od oe : Option Obj} {Q : Value → Shared → Prop}
/-- an AttributeError is made and raised -/
theorem raise_attr {α : Type} {msg : Str} {Q : α → Shared → Prop} (hh : A.handled = none) (hm : msg.length ≤ sizeLine)
    (h : ∀ (h' : Heap) (tk : Nat) (e : Addr), (∀ b o, s.heap.get? b = some o → h'.get? b = some o) → (∃ o, h'.get? e = some o ∧ o.cls = .type "AttributeError") → E (.ref e) { s with heap := h', toks := tk }) :
    wpAny (model prog w) A (raiseErrorStr "AttributeError" msg : Sem α) Q E s := by
  unfold raiseErrorStr
  refine wpAny_bind (wpAny_mkStr (wpAny_bind ?_) hm)
  unfold newExc newTuple
  refine wpAny_bind (wpAny_newObj_type ?_ (by size_fits))
  refine wpAny_bind (m := firstArgMember _ _) (wpAny_of_eq (a := Value.none) (by simp only [firstArgMember, attrError_no_first]; rfl) ?_)
  rw [ownMembersOf_AttributeError]
  refine wpAny_newObj_type ?_ (by size_fits)
  unfold raiseNew
  refine wpAny_bind (wpAny_handled ?_)
  rw [hh]
  first
    | refine wpAny_throw ?_
    | refine wpAny_bind (wpAny_pure (wpAny_throw ?_))
  exact h _ _ _ (fun b o hb => Heap.get?_push_of_some _ (Heap.get?_push_of_some _ hb)) ⟨_, Heap.get?_push_size _ rfl, rfl⟩
/-- what a class of the text must have that it is known to lack a name -/
structure Lacks (K : Frag) (D : Addr) (name : Str) : Prop where
  any : nsIn K cStatics "thirdparty.any" = some none
  ty : typeIn K (.ref D) = some (.type "type")
  ga : findIn K (.type "type") "__getattribute__" = some (some (.builtin "type.__getattribute__"))
  gg : findIn K (.type "type") "__getattr__" = some none
  sub : subIn K (.type "type") (.type "type") = some true
  meta' : findIn K (.type "type") name = some none
  own : findIn K (.ref D) name = some none
  nm : ∃ cd, clsIn K D = some cd ∧ (cd.name.cps.foldl (fun k c => k + (Str.utf8Of c).length) 0 ≤ 100) ∧ (((s!"type object '{cd.name.toString}' has no attribute '" : String) : Str) ++ name ++ "'").length ≤ sizeLine
theorem miss_cls {name : Str} {tk : Tok} {Q : Option Value → Shared → Prop} (X : K.In s.heap) (hA : A.handled = none) (l : Lacks K D name) (h : ∀ (h' : Heap) (tk : Nat), (∀ b o, s.heap.get? b = some o → h'.get? b = some o) → Q none { s with heap := h', toks := tk }) :
    wpAny (model prog w) A (getAttrBy? (.ref D) (.str name tk)) Q E s := by
  obtain ⟨cd, hcd, hshort, hlen⟩ := l.nm
  obtain ⟨hh, g0, d0, t0, os0⟩ := s
  have L1 : Looks (model prog w) hh (typeOf (.ref D)) (.type "type") := looks_typeIn X l.ty
  have L2 : Looks (model prog w) hh (typeLookup (.type "type") "__getattribute__") (some (.builtin "type.__getattribute__")) := looks_findIn X l.ga
  have L3 : Looks (model prog w) hh (opaqueClassAbove (.ref D)) none := looks_opaque X l.any
  have L4 : Looks (model prog w) hh (typeLookup (.type "type") name) none := looks_findIn X l.meta'
  have L5 : Looks (model prog w) hh (typeLookup (.ref D) name) none := looks_findIn X l.own
  have L6 : Looks (model prog w) hh (classData D) cd := looks_clsIn X hcd
  have ne : (Value.builtin "type.__getattribute__" == Value.builtin "object.__getattribute__") = false := by decide +kernel
  unfold getAttrBy? getAttrBy
  refine wpAny_bind (wpAny_attempt (wpAny_holding (wpAny_bind (L1.at (wpAny_bind (L2.at ?_))))))
  dsimp only
  rw [ne, Bool.and_false, if_neg Bool.false_ne_true]
  unfold getAttrByItsOwn
  refine wpAny_bind (m := hookBefore (.type "type")) (wpAny_pure (wpAny_bind (wpAny_attempt (wpAny_holding ?_))))
  unfold callGetattribute
  rw [Bool.false_and, if_neg Bool.false_ne_true]
  unfold boundAndCalled
  rw [KF.slot_tga.bind]
  refine wpAny_bind (wpAny_pure ?_)
  show wpAny _ _ (call (.builtin "type.__getattribute__") [.ref D, .str name tk]) _ _ _
  refine wpAny_call (codeAny_call_builtin KF.slot_tga.plain KF.entry_tga ?_)
  refine @check_slot (model prog w) _ _ ⟨hh, g0, d0, t0, os0⟩ "type.__getattribute__" "type" "__getattribute__" (.ref D) [.str name tk] [] _ (by decide +kernel) (by decide +kernel) (L1.andThen (looks_subIn X l.sub)) (KF.args_tga (.ref D) (.str name tk)) ?_
  unfold Builtin.«type.__getattribute__»
  refine wpAny_bind (wpAny_pure (wpAny_bind (L3.at (wpAny_bind (L1.at (wpAny_bind (L4.at ?_)))))))
  refine wpAny_bind (wpAny_pure ?_)
  dsimp only
  refine wpAny_bind (L5.at ?_)
  dsimp only
  refine wpAny_bind (m := typeNameCut 100 (.ref D)) ?_
  unfold typeNameCut
  refine wpAny_bind (L6.at ?_)
  rw [if_pos hshort]
  refine wpAny_pure ?_
  refine raise_attr (s := ⟨hh, g0, d0, t0, os0⟩) hA hlen fun h' tk' e k he => ?_
  obtain ⟨o, ho, hc⟩ := he
  have Li : ∀ {A : Around} {E : Value → Shared → Prop} {Q' : Bool → Shared → Prop}, Q' true ⟨h', g0, d0, tk', os0⟩ → wpAny (model prog w) A (isInstance (.ref e) (.type "AttributeError")) Q' E ⟨h', g0, d0, tk', os0⟩ := fun q => by
    unfold isInstance
    refine wpAny_bind (wpAny_typeOf_ref ho ?_)
    rw [hc, sub_AttributeError]
    exact wpAny_pure q
  have Lg : Looks (model prog w) h' (typeLookup (.type "type") "__getattr__") none := looks_findIn (X.keeps k) l.gg
  unfold getattributeRaised
  refine wpAny_bind (Li ?_)
  rw [if_pos rfl]
  refine wpAny_bind (m := hookBehind (.type "type") none) (Lg.at ?_)
  unfold hookOrError attributeErrorLeaves
  refine wpAny_bind (wpAny_throw ?_)
  refine wpAny_bind (Li ?_)
  rw [if_pos rfl]
  exact wpAny_pure (h h' tk' k)
theorem no_reflected {nm : String} {Q : Bool → Shared → Prop} (X : K.In s.heap) (hA : A.handled = none) (p1 : Looks (model prog w) s.heap (numberSlotInPython (.ref C) nm) true) (p2 : Looks (model prog w) s.heap (numberSlotInPython (.ref D) nm) true)
    (hr : Lacks K D (dunderR nm)) (hz : (dunderR nm).length ≤ sizeLine) (h : ∀ (h' : Heap) (tk : Nat), (∀ b o, s.heap.get? b = some o → h'.get? b = some o) → Q false { s with heap := h', toks := tk }) : wpAny (model prog w) A (reflectedDiffers (.ref C) (.ref D) nm) Q E s := by
  unfold reflectedDiffers
  refine wpAny_bind (p1.here ?_)
  simp only [Bool.not_true, Bool.false_eq_true, if_false]
  refine wpAny_bind (p2.here ?_)
  simp only [Bool.not_true, Bool.false_eq_true, if_false]
  refine wpAny_bind (wpAny_mkStr ?_ hz)
  refine wpAny_bind (miss_cls (s := { s with toks := s.toks + 1 }) X hA hr fun h' tk k => ?_)
  exact wpAny_pure (h h' tk k)
/-- x op y, both of the text's own classes -/
theorem binop_own {op : Operator} (X : K.In s.heap) (hA : A.handled = none) (I : InstAt s.heap x ox C od) (J : InstAt s.heap y oy D oe) (nC : selfFirst K C = true) (nD : selfFirst K D = true)
    (hs : findIn K (.ref C) (PySem.dunder op.info.2) = some (some (.ref f))) (hf : isFn K (.ref f) = true) (hr : findIn K (.ref C) (dunderR op.info.2) = some none) (hsD : ∃ g : Addr, findIn K (.ref D) (PySem.dunder op.info.2) = some (some (.ref g))) (hrD : Lacks K D (dunderR op.info.2)) (hz : (dunderR op.info.2).length ≤ sizeLine)
    (hsub : C ≠ D → ∃ r, subIn K (.ref D) (.ref C) = some r)
    (h : ∀ (h' : Heap) (tk : Nat), (∀ b o, s.heap.get? b = some o → h'.get? b = some o) → wpAny (model prog w) A (call (.ref f) [.ref x, .ref y]) (CmpBack Q) E { s with heap := h', toks := tk }) : wpAny (model prog w) A (binaryOp op (.ref x) (.ref y)) Q E s := by
  obtain ⟨cd, rest, hcd, hm⟩ := ksp_first nC
  obtain ⟨cd', rest', hcd', hm'⟩ := ksp_first nD
  obtain ⟨g, hsD⟩ := hsD
  rcases hi : op.info with ⟨sym, nm⟩
  rw [hi] at hs hr hsD hrD hz
  dsimp only at hs hr hsD hrD hz
  have tail : ∀ (h' : Heap) (tk : Nat), (∀ b o, s.heap.get? b = some o → h'.get? b = some o) → wpAny (model prog w) A (tryMethod (.ref x) (PySem.dunder nm) (.ref y)) (fun r s' => ∃ v, r = some v ∧ Q v s') E { s with heap := h', toks := tk } := fun h' tk k =>
    ksp_try (X.keeps k) (inst_up k I) hs hf (h h' tk k)
  have L1 : Looks (model prog w) s.heap (typeOf (.ref x)) (.ref C) := I.type
  have L2 : Looks (model prog w) s.heap (typeOf (.ref y)) (.ref D) := J.type
  have L3 : Looks (model prog w) s.heap (fillsNumberSlot (.ref C) nm) true := fills_K X hcd hm hs
  have L4 : Looks (model prog w) s.heap (fillsNumberSlot (.ref D) nm) true := fills_K X hcd' hm' hsD
  have L6 : Looks (model prog w) s.heap (numberSlotInPython (.ref C) nm) true := ksp_inPy X hs hr (.inl rfl)
  have L7 : Looks (model prog w) s.heap (numberSlotInPython (.ref D) nm) true := ksp_inPy X hsD hrD.own (.inl rfl)
  obtain ⟨hh, g0, d0, t0, os0⟩ := s
  have one : wpAny (model prog w) A (tryMethod (.ref x) (PySem.dunder nm) (.ref y)) (fun r s' => ∃ v, r = some v ∧ Q v s') E ⟨hh, g0, d0, t0, os0⟩ := tail hh t0 fun _ _ z => z
  simp only [binaryOp, hi]
  refine wpAny_holding (wpAny_bind ?_)
  unfold binaryOp1
  refine wpAny_bind (L1.at (wpAny_bind (L2.at (wpAny_bind (L3.at ?_)))))
  by_cases e : C = D
  · subst e
    simp only [beq_self_eq_true, if_true]
    ksp_lk
    refine wpAny_mono one (fun r s' hr' => ?_) fun _ _ e => e
    obtain ⟨v, rfl, hq⟩ := hr'
    ksp_lk
    exact hq
  · have hne : (Value.ref C == Value.ref D) = false := Bool.eq_false_iff.mpr fun q => e (by cases beq_iff_eq.mp q; rfl)
    obtain ⟨r, hr2⟩ := hsub e
    have L5 : Looks (model prog w) hh (isSubtype (.ref D) (.ref C)) r := looks_subIn X hr2
    simp only [hne, Bool.false_eq_true, if_false]
    cases r with
    | false =>
      ksp_lk
      refine wpAny_mono one (fun r s' hr' => ?_) fun _ _ e => e
      obtain ⟨v, rfl, hq⟩ := hr'
      ksp_lk
      exact hq
    | true =>
      refine wpAny_bind (L4.at ?_)
      simp only [Bool.and_self, if_true]
      refine wpAny_bind (L5.at ?_)
      simp only [if_true]
      refine wpAny_bind (no_reflected (s := ⟨hh, g0, d0, t0, os0⟩) X hA L6 L7 hrD hz fun h' tk k => ?_)
      have L6' : Looks (model prog w) h' (numberSlotInPython (.ref C) nm) true := ksp_inPy (X.keeps k) hs hr (.inl rfl)
      have L7' : Looks (model prog w) h' (numberSlotInPython (.ref D) nm) true := ksp_inPy (X.keeps k) hsD hrD.own (.inl rfl)
      have two : wpAny (model prog w) A (tryMethod (.ref x) (PySem.dunder nm) (.ref y)) (fun r s' => ∃ v, r = some v ∧ Q v s') E ⟨h', g0, d0, tk, os0⟩ := tail h' tk k
      simp only [Bool.false_eq_true, if_false, Bool.not_false, Bool.and_self, if_true]
      ksp_lk
      refine wpAny_mono two (fun r s' hr' => ?_) fun _ _ e => e
      obtain ⟨v, rfl, hq⟩ := hr'
      ksp_lk
      exact hq
/-- x == y, both of the text's own classes: the def of the one, or of the other where that one's class descends -/
theorem eq_own {f g : Addr} (X : K.In s.heap) (hu : A.units < cLine) (I : InstAt s.heap x ox C od) (J : InstAt s.heap y oy D oe)
    (hs : findIn K (.ref C) "__eq__" = some (some (.ref f))) (hf : isFn K (.ref f) = true) (hsD : findIn K (.ref D) "__eq__" = some (some (.ref g))) (hg : isFn K (.ref g) = true)
    (hsub : C ≠ D → ∃ r, subIn K (.ref D) (.ref C) = some r)
    (h1 : wpAny (model prog w) A (call (.ref f) [.ref x, .ref y]) (PySem.W.CmpBack Q) E s) (h2 : wpAny (model prog w) A (call (.ref g) [.ref y, .ref x]) (PySem.W.CmpBack Q) E s) : wpAny (model prog w) A (richCompare .Eq (.ref x) (.ref y)) Q E s := by
  have try' : ∀ {u v : Addr} {c e : Addr} {ou : Obj} {oo : Option Obj}, InstAt s.heap u ou c oo → findIn K (.ref c) "__eq__" = some (some (.ref e)) → isFn K (.ref e) = true → wpAny (model prog w) A (call (.ref e) [.ref u, .ref v]) (PySem.W.CmpBack Q) E s →
      wpAny (model prog w) A (tryCompare (.ref u) "__eq__" (.ref v)) (fun r s' => ∃ z, r = some z ∧ Q z s') E s := fun U a b hh => by
    unfold tryCompare
    refine wpAny_bind (ifBound_K X U a b (wpAny_mono hh (fun z s' hz => ?_) fun _ _ e => e))
    cases z <;> first | exact hz.elim | exact wpAny_pure ⟨_, rfl, hz⟩
  unfold richCompare
  simp only [oneThing_ref]
  refine wpAny_holding (wpAny_bind (wpAny_cRoomFor hu ?_))
  refine wpAny_bind (I.type.here (wpAny_bind (J.type.here ?_)))
  by_cases e : C = D
  · subst e
    have ne : (Value.ref C != Value.ref C) = false := by simp
    rw [ne, if_neg Bool.false_ne_true]
    refine wpAny_bind (wpAny_pure ?_)
    simp only [Bool.false_eq_true, if_false]
    refine wpAny_bind (wpAny_mono (try' I hs hf h1) (fun r s' z => ?_) fun _ _ e => e)
    obtain ⟨v, rfl, hq⟩ := z
    exact wpAny_pure hq
  · have ne : (Value.ref C != Value.ref D) = true := by simpa using e
    rw [ne, if_pos rfl]
    obtain ⟨r, hr⟩ := hsub e
    refine wpAny_bind ((looks_subIn X hr).here ?_)
    cases r with
    | false =>
      simp only [Bool.false_eq_true, if_false]
      refine wpAny_bind (wpAny_mono (try' I hs hf h1) (fun r s' z => ?_) fun _ _ e => e)
      obtain ⟨v, rfl, hq⟩ := z
      exact wpAny_pure hq
    | true =>
      simp only [if_true]
      refine wpAny_bind (m := tryCompare (.ref y) _ (.ref x)) (wpAny_mono (try' J hsD hg h2) (fun r s' z => ?_) fun _ _ e => e)
      obtain ⟨v, rfl, hq⟩ := z
      exact wpAny_bind (wpAny_rule (wpAny_pure hq))
/-- x != y by the built-in way, which asks == -/
theorem ne_try {f : Addr} (X : K.In s.heap) (hu : A.units + 1 < cLine) (I : InstAt s.heap x ox C od) (hn : findIn K (.ref C) "__ne__" = some (some (.builtin "object.__ne__"))) (ho : subIn K (.ref C) (.type "object") = some true)
    (hs : findIn K (.ref C) "__eq__" = some (some (.ref f))) (hf : isFn K (.ref f) = true) (h : wpAny (model prog w) A.in1 (call (.ref f) [.ref x, .ref y]) (fun v s' => ∃ b, v = .bool b ∧ Q (.bool !b) s') E s) :
    wpAny (model prog w) A (tryCompare (.ref x) "__ne__" (.ref y)) (fun r s' => ∃ z, r = some z ∧ Q z s') E s := by
  unfold tryCompare
  refine wpAny_bind (m := callSpecialIfBound? (.ref x) "__ne__" [.ref y]) ?_
  simp only [callSpecialIfBound?, bindSpecialIfBound?]
  refine wpAny_holding (wpAny_bind (wpAny_bind (wpAny_bind (I.type.here ((looks_findIn X hn).here ?_)))))
  refine wpAny_bind (wpAny_askSetting (wpAny_ite ?_))
  have bnd : bindSpecial (.builtin "object.__ne__") (.ref x) = pure (.builtin "object.__ne__", [.ref x]) := F.cmp_object.ne.bind (.ref x)
  have body : wpAny (model prog w) A (call (.builtin "object.__ne__") [.ref x, .ref y]) (fun v s' => ∃ b, v = .bool (!b) ∧ Q (.bool !b) s') E s := by
    refine wpAny_call (codeAny_call_builtin F.cmp_object.ne.plain F.cmpEntry_ne (PySem.W.check_slot F.cmpKind_ne F.cmpSplit_ne (I.type.andThen (looks_subIn X ho)) (F.cmpArgs_ne _ _) ?_))
    unfold Builtin.«object.__ne__»
    refine wpAny_bind (wpAny_of_eq (a := ((Value.ref x : Value), [Value.ref y])) (by first | rfl | (simp only [slotArgs]; rfl)) ?_)
    refine wpAny_bind (wpAny_cRoomFor (by show A.units + 1 < cLine; exact hu) ?_)
    refine wpAny_bind (ifBound_K X I hs hf (wpAny_mono h (fun v s' hv => ?_) fun _ _ z => z))
    obtain ⟨b, rfl, hq⟩ := hv
    exact wpAny_bind (m := truthy (.bool b)) (wpAny_pure (wpAny_pure ⟨b, rfl, hq⟩))
  have fin : wpAny (model prog w) A (call (.builtin "object.__ne__") ([.ref x] ++ [.ref y]) >>= fun v => pure (some v)) (fun r s' => wpAny (model prog w) A (match r with
      | some .notImplemented | none => pure none
      | some v => pure (some v)) (fun r s' => ∃ z, r = some z ∧ Q z s') E s') E s := wpAny_bind (wpAny_mono body (fun v s' h' => by
    obtain ⟨b, rfl, hq⟩ := h'
    exact wpAny_pure (wpAny_pure ⟨_, rfl, hq⟩)) fun _ _ h' => h')
  rw [bnd]
  split
  · exact wpAny_bind (wpAny_pure (wpAny_pure (by exact fin)))
  · exact wpAny_tryCatch (wpAny_bind (wpAny_pure (wpAny_pure (by exact fin))))
theorem ne_own {f g : Addr} (X : K.In s.heap) (hu : A.units + 1 < cLine) (I : InstAt s.heap x ox C od) (J : InstAt s.heap y oy D oe)
    (hn : findIn K (.ref C) "__ne__" = some (some (.builtin "object.__ne__"))) (hnD : findIn K (.ref D) "__ne__" = some (some (.builtin "object.__ne__"))) (ho : subIn K (.ref C) (.type "object") = some true) (hoD : subIn K (.ref D) (.type "object") = some true)
    (hs : findIn K (.ref C) "__eq__" = some (some (.ref f))) (hf : isFn K (.ref f) = true) (hsD : findIn K (.ref D) "__eq__" = some (some (.ref g))) (hg : isFn K (.ref g) = true)
    (hsub : C ≠ D → ∃ r, subIn K (.ref D) (.ref C) = some r)
    (h1 : wpAny (model prog w) A.in1 (call (.ref f) [.ref x, .ref y]) (fun v s' => ∃ b, v = .bool b ∧ Q (.bool !b) s') E s) (h2 : wpAny (model prog w) A.in1 (call (.ref g) [.ref y, .ref x]) (fun v s' => ∃ b, v = .bool b ∧ Q (.bool !b) s') E s) : wpAny (model prog w) A (richCompare .NotEq (.ref x) (.ref y)) Q E s := by
  unfold richCompare
  simp only [oneThing_ref]
  refine wpAny_holding (wpAny_bind (wpAny_cRoomFor (Nat.lt_of_succ_lt hu) ?_))
  refine wpAny_bind (I.type.here (wpAny_bind (J.type.here ?_)))
  by_cases e : C = D
  · subst e
    have ne : (Value.ref C != Value.ref C) = false := by simp
    rw [ne, if_neg Bool.false_ne_true]
    refine wpAny_bind (wpAny_pure ?_)
    simp only [Bool.false_eq_true, if_false]
    refine wpAny_bind (wpAny_mono (ne_try X hu I hn ho hs hf h1) (fun r s' z => ?_) fun _ _ e => e)
    obtain ⟨v, rfl, hq⟩ := z
    exact wpAny_pure hq
  · have ne : (Value.ref C != Value.ref D) = true := by simpa using e
    rw [ne, if_pos rfl]
    obtain ⟨r, hr⟩ := hsub e
    refine wpAny_bind ((looks_subIn X hr).here ?_)
    cases r with
    | false =>
      simp only [Bool.false_eq_true, if_false]
      refine wpAny_bind (wpAny_mono (ne_try X hu I hn ho hs hf h1) (fun r s' z => ?_) fun _ _ e => e)
      obtain ⟨v, rfl, hq⟩ := z
      exact wpAny_pure hq
    | true =>
      simp only [if_true]
      refine wpAny_bind (m := tryCompare (.ref y) _ (.ref x)) (wpAny_mono (ne_try X hu J hnD hoD hsD hg h2) (fun r s' z => ?_) fun _ _ e => e)
      obtain ⟨v, rfl, hq⟩ := z
      exact wpAny_bind (wpAny_rule (wpAny_pure hq))
end
end RL

set_option Elab.async false
set_option linter.all false
set_option maxRecDepth 100000
set_option maxHeartbeats 4000000
/-! RL5: own operators as rules over the layer -/
namespace RL
open PySem PySem.Spec PyProof.Rows L2
/-- a family of classes of the text whose instances meet in operators -/
structure Fam (K : PySem.W.Frag) (Cs : Addr → Prop) : Prop where
  cls : ∀ C, Cs C → Cls K C
  first : ∀ C, Cs C → PySem.W.selfFirst K C = true
  sub : ∀ C D, Cs C → Cs D → C ≠ D → ∃ r, PySem.W.subIn K (.ref D) (.ref C) = some r
  obj : ∀ C, Cs C → PySem.W.subIn K (.ref C) (.type "object") = some true
  ne : ∀ C, Cs C → PySem.W.findIn K (.ref C) "__ne__" = some (some (.builtin "object.__ne__"))
def InsAny (Cs : Addr → Prop) (v : V) (H : Hp) : Prop := ∃ a C dx fs, v = .ref a ∧ H a = some (.ins C dx fs) ∧ Cs C
section
variable {X : Cx} {Cs : Addr → Prop} {k : Nat} {m : Str} {ps : List Str} {sp : Sp}
theorem inst_of {pins : List (Addr × Obj)} {σ : L2.St} {H : Hp} {s : Shared} {a C dx : Addr} {fs : List (Str × V)} (I : Inv X pins σ H s) (h : H a = some (.ins C dx fs)) : ∃ ox od, PySem.W.InstAt s.heap a ox C od := by
  obtain ⟨mA, J, _⟩ := ins_get I.hok h
  obtain ⟨od, J, _⟩ := J.look
  exact ⟨_, _, J⟩
theorem not_ni {v : V} {u : Value} (r : L2.RelV v u) : u ≠ .notImplemented := by
  cases v <;> (unfold L2.RelV at r; first | (subst r; intro z; cases z) | (obtain ⟨_, rfl⟩ := r; intro z; cases z))
theorem back_of {pins : List (Addr × Obj)} {σ : L2.St} {Q : VK} {u : Value} {s' : Shared} (h : EP X pins σ Q u s') : PySem.W.CmpBack (EP X pins σ Q) u s' := by
  obtain ⟨v, H', I, r, q⟩ := h
  have hn := not_ni r
  cases u <;> first | exact ⟨v, H', I, r, q⟩ | exact absurd rfl hn
/-- x op y by the text's own def -/
theorem op_ownB {op : Operator} (Fa : Fam X.K Cs) (F : MtG X.prog X.w X.K X.mg X.base k Cs (PySem.dunder op.info.2) ps sp) (hr : Room k X.A) (hl : ∀ D, Cs D → Lacks X.K D (dunderR op.info.2)) (hz : (dunderR op.info.2).length ≤ sizeLine := by decide +kernel) :
    OpR X (binaryOp op) (fun x y H Q => InsAny Cs x H ∧ InsAny Cs y H ∧ sp [x, y] H Q E0) := by
  intro pins s σ H x y v u Q I rx ry h
  obtain ⟨⟨a, C, dx, fs, ex, ha, hC⟩, ⟨b, D, dy, gs, ey, hb, hD⟩, q⟩ := h
  subst ex; subst ey; cases rx; cases ry
  obtain ⟨ox, od, J⟩ := inst_of I ha
  obtain ⟨oy, oe, J2⟩ := inst_of I hb
  obtain ⟨f, fd, F1, _, M, B⟩ := F.ex C hC
  obtain ⟨g, _, _, _, M2, _⟩ := F.ex D hD
  refine binop_own I.kIn hr.hd J J2 (Fa.first C hC) (Fa.first D hD) M.at_ M.fn (hl C hC).own ⟨g, M2.at_⟩ (hl D hD) hz (fun ne => Fa.sub C D hC hD ne) fun h' tk kp => ?_
  have I' : Inv X pins σ H { s with heap := h', toks := tk } := I.un (Un.kept kp) (I.hok.kept kp)
  exact wpAny_mono (run_fn (us := [.ref a, .ref b]) (vs := [.ref a, .ref b]) F1 hr B .nil pass0 I' (.cons rfl (.cons rfl .nil)) q) (fun _ _ z => back_of z) fun _ _ z => z
/-- what an own == promises: of instances in the family a truth value -/
theorem op_ownE (Fa : Fam X.K Cs) (F : MtG X.prog X.w X.K X.mg X.base k Cs "__eq__" ps sp) (hr : Room k X.A) :
    OpR X (compareOp .Eq) (fun x y H Q => InsAny Cs x H ∧ InsAny Cs y H ∧ sp [x, y] H Q E0 ∧ sp [y, x] H Q E0) := by
  intro pins s σ H x y v u Q I rx ry h
  obtain ⟨⟨a, C, dx, fs, ex, ha, hC⟩, ⟨b, D, dy, gs, ey, hb, hD⟩, q, q'⟩ := h
  subst ex; subst ey; cases rx; cases ry
  obtain ⟨ox, od, J⟩ := inst_of I ha
  obtain ⟨oy, oe, J2⟩ := inst_of I hb
  obtain ⟨f, fd, F1, _, M, B⟩ := F.ex C hC
  obtain ⟨g, gd, F2, _, M2, B2⟩ := F.ex D hD
  show wpAny _ _ (richCompare .Eq (.ref a) (.ref b)) _ _ _
  exact eq_own I.kIn hr.units0 J J2 M.at_ M.fn M2.at_ M2.fn (fun ne => Fa.sub C D hC hD ne)
    (wpAny_mono (run_fn (us := [.ref a, .ref b]) (vs := [.ref a, .ref b]) F1 hr B .nil pass0 I (.cons rfl (.cons rfl .nil)) q) (fun _ _ z => back_of z) fun _ _ z => z)
    (wpAny_mono (run_fn (us := [.ref b, .ref a]) (vs := [.ref b, .ref a]) F2 hr B2 .nil pass0 I (.cons rfl (.cons rfl .nil)) q') (fun _ _ z => back_of z) fun _ _ z => z)
end
section
variable {X : Cx} {Cs : Addr → Prop} {k : Nat} {m : Str} {ps : List Str} {sp : Sp}
theorem run_fn1 {f : Addr} {fd : FuncData} {pins : List (Addr × Obj)} {σ : L2.St} {H : Hp} {s : Shared} {Q : VK} {us : List Value} {vs : List V} (F : FnOk X.prog X.w X.K X.mg X.base CX0 k f fd ps sp) (hr : Room (k + 1) X.A) (hb : Binds X.K fd ps [])
    (I : Inv X pins σ H s) (r : Vals vs us) (h : sp vs H Q E0) : wpAny (model X.prog X.w) X.A.in1 (call (.ref f) us) (EP X pins σ Q) X.xe s := by
  have hl : us.length = ps.length := by rw [← r.length]; exact F.len _ _ _ _ h
  have b := hb s us I.kIn (by simpa using hl)
  rw [List.append_nil] at b
  refine wpAny_call (codeAny_mono (F.run X.A.in1 X.stack s H ⟨us, []⟩ us vs Q E0 hr.in1 I.env0.in1 b r h) fun r s' hq => ?_)
  cases r with
  | error e => exact False.elim hq
  | ok fl =>
    cases fl with
    | ret u => exact I.after hq
    | next => exact False.elim hq
    | brk => exact False.elim hq
    | cont => exact False.elim hq
theorem op_ownN (Fa : Fam X.K Cs) (F : MtG X.prog X.w X.K X.mg X.base k Cs "__eq__" ps sp) (hr : Room (k + 1) X.A) :
    OpR X (compareOp .NotEq) (fun x y H Q => InsAny Cs x H ∧ InsAny Cs y H ∧ sp [x, y] H (fun v H' => ∃ c, v = .bl c ∧ Q (.bl !c) H') E0 ∧ sp [y, x] H (fun v H' => ∃ c, v = .bl c ∧ Q (.bl !c) H') E0) := by
  intro pins s σ H x y v u Q I rx ry h
  obtain ⟨⟨a, C, dx, fs, ex, ha, hC⟩, ⟨b, D, dy, gs, ey, hb, hD⟩, q, q'⟩ := h
  subst ex; subst ey; cases rx; cases ry
  obtain ⟨ox, od, J⟩ := inst_of I ha
  obtain ⟨oy, oe, J2⟩ := inst_of I hb
  obtain ⟨f, fd, F1, _, M, B⟩ := F.ex C hC
  obtain ⟨g, gd, F2, _, M2, B2⟩ := F.ex D hD
  have fin : ∀ {u : Value} {s' : Shared}, EP X pins σ (fun v H' => ∃ c, v = .bl c ∧ Q (.bl !c) H') u s' → ∃ c, u = .bool c ∧ EP X pins σ Q (.bool !c) s' := fun h => by
    obtain ⟨v, H', I, r, c, ev, q⟩ := h
    subst ev
    exact ⟨c, r, .bl (!c), H', I, rfl, q⟩
  show wpAny _ _ (richCompare .NotEq (.ref a) (.ref b)) _ _ _
  refine ne_own I.kIn ?_ J J2 (Fa.ne C hC) (Fa.ne D hD) (Fa.obj C hC) (Fa.obj D hD) M.at_ M.fn M2.at_ M2.fn (fun ne => Fa.sub C D hC hD ne)
    (wpAny_mono (run_fn1 (us := [.ref a, .ref b]) (vs := [.ref a, .ref b]) F1 hr B I (.cons rfl (.cons rfl .nil)) q) (fun _ _ z => fin z) fun _ _ z => z)
    (wpAny_mono (run_fn1 (us := [.ref b, .ref a]) (vs := [.ref b, .ref a]) F2 hr B2 I (.cons rfl (.cons rfl .nil)) q') (fun _ _ z => fin z) fun _ _ z => z)
  have := hr.units
  omega
end
end RL

set_option Elab.async false
set_option linter.all false
set_option maxRecDepth 100000
set_option maxHeartbeats 4000000
/-! RL6: a head's facts with further ones of one's own; from facts to promises -/
namespace RL
open PySem PySem.Spec PyProof.Rows L2
/-- the fragment: what the module's names reach, and the statics -/
def frX (n : Nat) (g : Addr → Option Obj) : PySem.W.Frag := He.frG g (cStatics :: He.asD g n)
abbrev AlX : Type := He.AlD × Bool
def obsX (n : Nat) (fa : List He.Fa) (fn : List He.DefD) (ex : PySem.W.Frag → Bool) (g : Addr → Option Obj) : AlX := (He.obsD fa fn (frX n g), ex (frX n g))
def SaysX (fa : List He.Fa) (fn : List He.DefD) (ex : PySem.W.Frag → Bool) (K : PySem.W.Frag) : Prop := He.SaysD fa fn K ∧ ex K = true
def hookX (n : Nat) (fa : List He.Fa) (fn : List He.DefD) (ex : PySem.W.Frag → Bool) : PySem.W.Hook where
  α := AlX
  obs := fun s => obsX n fa fn ex s.heap.get?
  val := fun _ => (He.valD fn, true)
  says := fun _ h => ∃ K : PySem.W.Frag, K.In h ∧ SaysX fa fn ex K
  of := fun _ s e => ⟨frX n s.heap.get?, He.frG_in, (Prod.mk.inj e).1, (Prod.mk.inj e).2⟩
  keeps := fun _ _ _ ⟨K, hK, c⟩ k => ⟨K, PySem.W.Frag.In.keeps hK k, c⟩
theorem obsX_eq {n : Nat} {fa : List He.Fa} {fn : List He.DefD} {ex : PySem.W.Frag → Bool} {g : Addr → Option Obj} {s : Shared} (h : ∀ a, g a = s.heap.get? a) : obsX n fa fn ex g = (hookX n fa fn ex).obs s := by
  have e : g = s.heap.get? := funext h
  rw [e] <;> rfl
/-! ### facts of classes that meet in operators -/
open PySem.W in
def lacksB (K : Frag) (D : Addr) (name : Str) : Bool := He.eqO (nsIn K cStatics "thirdparty.any") (some none) && decide (typeIn K (.ref D) = some (.type "type")) && He.eqO (findIn K (.type "type") "__getattribute__") (some (some (.builtin "type.__getattribute__"))) &&
  He.eqO (findIn K (.type "type") "__getattr__") (some none) && decide (subIn K (.type "type") (.type "type") = some true) && He.eqO (findIn K (.type "type") name) (some none) && He.eqO (findIn K (.ref D) name) (some none) &&
  (match clsIn K D with
    | some cd => decide (cd.name.cps.foldl (fun k c => k + (Str.utf8Of c).length) 0 ≤ 100) && decide ((((s!"type object '{cd.name.toString}' has no attribute '" : String) : Str) ++ name ++ "'").length ≤ sizeLine)
    | none => false)
theorem lacks_of {K : PySem.W.Frag} {D : Addr} {name : Str} (h : lacksB K D name = true) : Lacks K D name := by
  unfold lacksB at h
  simp only [Bool.and_eq_true, decide_eq_true_eq] at h
  obtain ⟨⟨⟨⟨⟨⟨⟨h1, h2⟩, h3⟩, h4⟩, h5⟩, h6⟩, h7⟩, h8⟩ := h
  refine ⟨He.eqO_ok h1, h2, He.eqO_ok h3, He.eqO_ok h4, h5, He.eqO_ok h6, He.eqO_ok h7, ?_⟩
  split at h8
  · rename_i cd e
    simp only [Bool.and_eq_true, decide_eq_true_eq] at h8
    exact ⟨cd, e, h8.1, h8.2⟩
  · cases h8
open PySem.W in
def famB (K : Frag) (cs : List Str) : Bool := cs.all fun x => (He.Fa.cls x).ok K && selfFirst K (He.ga K x) && decide (subIn K (.ref (He.ga K x)) (.type "object") = some true) && He.eqO (findIn K (.ref (He.ga K x)) "__ne__") (some (some (.builtin "object.__ne__"))) &&
  cs.all fun y => (subIn K (.ref (He.ga K y)) (.ref (He.ga K x))).isSome
open PySem.W in
/-- isinstance against the class x, of an instance of one of these -/
def isaB (K : Frag) (cs : List Str) (x : Str) : Bool := (He.Fa.cls x).ok K && decide (specialIn K (.builtin "object.__class__") "__get__" = some (some (.builtin "getset_descriptor.__get__"))) && decide (takesIn K (.builtin "object.__class__") = some true) &&
  cs.all fun y => (He.Fa.cls y).ok K && He.eqO (findIn K (.ref (He.ga K y)) "__class__") (some (some (.builtin "object.__class__"))) && decide (mroIn K (He.ga K y) (.type "object") = some true) && decide (kitOne K (.ref (He.ga K y)) (.ref (He.ga K x)) = some true)
/-- the classes of these names -/
def NamesC (K : PySem.W.Frag) (cs : List Str) (C : Addr) : Prop := ∃ x ∈ cs, C = He.ga K x
theorem fam_of {K : PySem.W.Frag} {cs : List Str} (h : famB K cs = true) : Fam K (NamesC K cs) := by
  unfold famB at h
  have g : ∀ x ∈ cs, _ := fun x hx => List.all_eq_true.mp h x hx
  simp only [Bool.and_eq_true, decide_eq_true_eq] at g
  refine ⟨?_, ?_, ?_, ?_, ?_⟩
  · rintro C ⟨x, hx, rfl⟩; exact He.cls_ok (g x hx).1.1.1.1
  · rintro C ⟨x, hx, rfl⟩; exact (g x hx).1.1.1.2
  · rintro C D ⟨x, hx, rfl⟩ ⟨y, hy, rfl⟩ _
    exact Option.isSome_iff_exists.mp (List.all_eq_true.mp (g x hx).2 y hy)
  · rintro C ⟨x, hx, rfl⟩; exact (g x hx).1.1.2
  · rintro C ⟨x, hx, rfl⟩; exact He.eqO_ok (g x hx).1.2
theorem isa_of {K : PySem.W.Frag} {cs : List Str} {x : Str} (h : isaB K cs x = true) {v : V} {H : Hp} (hv : InsAny (NamesC K cs) v H) : ∃ t, TyX K H v t ∧ PySem.W.kitOne K t (.ref (He.ga K x)) = some true := by
  unfold isaB at h
  simp only [Bool.and_eq_true, decide_eq_true_eq] at h
  obtain ⟨⟨⟨_, h2⟩, h3⟩, h4⟩ := h
  obtain ⟨a, C, dx, fs, rfl, ha, y, hy, rfl⟩ := hv
  have g := List.all_eq_true.mp h4 y hy
  simp only [Bool.and_eq_true, decide_eq_true_eq] at g
  exact ⟨_, .base (.ins ha (He.cls_ok g.1.1.1) (He.eqO_ok g.1.1.2) h2 h3 g.1.2), g.2⟩
/-! ### from facts to promises -/
/-- what is known behind the top -/
structure Tx (qa : List He.Fa) (qn : List He.DefD) (ex : PySem.W.Frag → Bool) (K : PySem.W.Frag) (mg : Str → Option Value) : Prop where
  c : SaysX qa qn ex K
  ns : ∃ h, K.In h ∧ h.Ns mainGlobals mg
section
variable {qa : List He.Fa} {qn : List He.DefD} {ex : PySem.W.Frag → Bool} {K : PySem.W.Frag} {mg : Str → Option Value} {P : Program} {w : World} {base : Heap} {k : Nat} {ps : List Str} {sp : Sp}
theorem Tx.glo (T : Tx qa qn ex K mg) (x : Str) (h : He.Fa.glo x ∈ qa) : mg x = some (.ref (He.ga K x)) := by
  obtain ⟨hp, X, G⟩ := T.ns
  obtain ⟨i, hi⟩ := List.mem_iff_getElem?.mp h
  exact He.glo_ok X G (T.c.1.fact i hi)
theorem Tx.free (T : Tx qa qn ex K mg) (x : Str) (h : He.Fa.free x ∈ qa) : mg x = none := by
  obtain ⟨hp, X, G⟩ := T.ns
  obtain ⟨i, hi⟩ := List.mem_iff_getElem?.mp h
  exact He.free_ok X G (T.c.1.fact i hi)
theorem Tx.int (T : Tx qa qn ex K mg) (x : Str) (i : Int) (h : He.Fa.int x i ∈ qa) : ∃ t, mg x = some (.int i t) := by
  obtain ⟨hp, X, G⟩ := T.ns
  obtain ⟨j, hj⟩ := List.mem_iff_getElem?.mp h
  exact He.int_ok X G (T.c.1.fact j hj)
theorem Tx.fact (T : Tx qa qn ex K mg) (f : He.Fa) (h : f ∈ qa) : f.ok K = true := by
  obtain ⟨i, hi⟩ := List.mem_iff_getElem?.mp h
  exact T.c.1.fact i hi
theorem Tx.def_ (T : Tx qa qn ex K mg) (d : He.DefD) (h : d ∈ qn) : ∃ fd, FunD K d.name d.qual d.params d.body d.scope (d.dvs K) (d.kws K) (He.fAd K d.at_) fd := by
  obtain ⟨i, hi⟩ := List.mem_iff_getElem?.mp h
  exact T.c.1.def_ i hi
/-- a def of the module -/
theorem Tx.fn (T : Tx qa qn ex K mg) (d : He.DefD) (h : d ∈ qn) (x : Str) (hx : d.at_ = (x, none)) (hg : He.Fa.glo x ∈ qa) (hz : d.dfl = [])
    (hb : ∀ (kV doc pm : Value) (an : Option Addr) (cdv ct : Value) (us : List Value), us.length = ps.length → bindArgs (PySem.W.fnOf d.name d.qual d.params d.body d.scope .none kV doc pm an cdv ct) ⟨us, []⟩ = pure (ps.zip us))
    (ok : ∀ f fd, FunD K d.name d.qual d.params d.body d.scope [] (d.kws K) f fd → FnOk P w K mg base CX0 k f fd ps sp) : FnG P w K mg base k x ps sp := by
  obtain ⟨fd, F⟩ := T.def_ d h
  have e0 : d.dvs K = [] := by unfold He.DefD.dvs; rw [hz]; rfl
  rw [e0] at F
  refine ⟨_, fd, ok _ _ F, ?_, F.kp, F.bindsN hb⟩
  have e : He.fAd K d.at_ = He.ga K x := by rw [hx]; rfl
  rw [e]
  exact T.glo x hg
/-- a method that all classes of these names have -/
theorem Tx.mt (T : Tx qa qn ex K mg) (cs : List Str) (m : Str) (d : Str → He.DefD) (h : ∀ x ∈ cs, d x ∈ qn ∧ (d x).at_ = (x, some m) ∧ (d x).dfl = [] ∧ He.Fa.cls x ∈ qa ∧ He.Fa.meth x m ∈ qa)
    (hb : ∀ x ∈ cs, ∀ (kV doc pm : Value) (an : Option Addr) (cdv ct : Value) (us : List Value), us.length = ps.length → bindArgs (PySem.W.fnOf (d x).name (d x).qual (d x).params (d x).body (d x).scope .none kV doc pm an cdv ct) ⟨us, []⟩ = pure (ps.zip us))
    (ok : ∀ x ∈ cs, ∀ f fd, FunD K (d x).name (d x).qual (d x).params (d x).body (d x).scope [] ((d x).kws K) f fd → FnOk P w K mg base CX0 k f fd ps sp) : MtG P w K mg base k (NamesC K cs) m ps sp := by
  refine ⟨?_⟩
  rintro C ⟨x, hx, rfl⟩
  obtain ⟨h1, h2, h3, h4, h5⟩ := h x hx
  obtain ⟨fd, F⟩ := T.def_ (d x) h1
  have e0 : (d x).dvs K = [] := by unfold He.DefD.dvs; rw [h3]; rfl
  rw [e0] at F
  have e : He.fAd K (d x).at_ = He.ma K (He.ga K x) m := by rw [h2]; rfl
  rw [e] at F
  exact ⟨_, fd, ok x hx _ _ F, He.cls_ok (T.fact _ h4), He.meth_ok (T.fact _ h5), F.bindsN (hb x hx)⟩
end
end RL

set_option Elab.async false
set_option linter.all false
set_option maxRecDepth 100000
set_option maxHeartbeats 4000000
/-! RL7: further rules: truth, choices, while, the usual operators, isinstance -/
namespace RL
open PySem PySem.Spec PyProof.Rows L2
section
variable {X : Cx} {Γ : Ctx} {e o a b c d : Expr} {es : List Expr} {T U : Ty} {Ts Us : List Ty} {pos p p2 apos : Pos} {x m : Str}
/-! ints -/
section
variable {i j : Int}
theorem g_add (ha : G X Γ a (intT i)) (hb : G X Γ b (intT j)) : G X Γ (.BinOp a .Add b pos) (intT (i + j)) := g_op op_add ha hb (r_I0 (g := fun i j => V.int (i + j)))
theorem g_sub (ha : G X Γ a (intT i)) (hb : G X Γ b (intT j)) : G X Γ (.BinOp a .Sub b pos) (intT (i - j)) := g_op op_sub ha hb (r_I0 (g := fun i j => V.int (i - j)))
theorem g_mul {n k : Nat} (ha : G X Γ a (intT i)) (hb : G X Γ b (intT j)) (hi : i.natAbs < 2 ^ n) (hj : j.natAbs < 2 ^ k) (hn : 0 < n := by decide) (hk : 0 < k := by decide) (h : n + k ≤ 1000000 := by decide) : G X Γ (.BinOp a .Mult b pos) (intT (i * j)) := g_op op_mulW ha hb (r_I (g := fun i j => V.int (i * j)) (wide_mul hi hj hn hk h))
theorem g_mod (ha : G X Γ a (intT i)) (hb : G X Γ b (intT j)) (hj : 0 < j) : G X Γ (.BinOp a .Mod b pos) (intT (i % j)) := g_op op_mod ha hb (r_I (g := fun i j => V.int (i % j)) (C := fun _ j => 0 < j) hj)
theorem g_fdiv {k : Nat} (ha : G X Γ a (intT i)) (hb : G X Γ b (intT j)) (hj : 0 < j) (hk : j.natAbs < 2 ^ k) (h0 : 0 < k := by decide) (h9 : k ≤ 9000 := by decide) : G X Γ (.BinOp a .FloorDiv b pos) (intT (i / j)) := g_op op_fdivW ha hb (r_I (g := fun i j => V.int (i / j)) (wide_div hj hk h0 h9))
theorem gt_lt (ha : G X Γ a (intT i)) (hb : G X Γ b (intT j)) : GT X Γ (.Compare a [.Lt] [b] pos) (decide (i < j)) := gt_cmp op_lt ha hb (r_I0 (g := fun i j => V.bl (decide (i < j)))) (nomark _)
theorem gt_le (ha : G X Γ a (intT i)) (hb : G X Γ b (intT j)) : GT X Γ (.Compare a [.LtE] [b] pos) (decide (i ≤ j)) := gt_cmp op_le ha hb (r_I0 (g := fun i j => V.bl (decide (i ≤ j)))) (nomark _)
theorem gt_gt (ha : G X Γ a (intT i)) (hb : G X Γ b (intT j)) : GT X Γ (.Compare a [.Gt] [b] pos) (decide (j < i)) := gt_cmp op_gt ha hb (r_I0 (g := fun i j => V.bl (decide (j < i)))) (nomark _)
theorem gt_ge (ha : G X Γ a (intT i)) (hb : G X Γ b (intT j)) : GT X Γ (.Compare a [.GtE] [b] pos) (decide (j ≤ i)) := gt_cmp op_ge ha hb (r_I0 (g := fun i j => V.bl (decide (j ≤ i)))) (nomark _)
theorem g_lt (ha : G X Γ a (intT i)) (hb : G X Γ b (intT j)) : G X Γ (.Compare a [.Lt] [b] pos) (blT (decide (i < j))) := g_cmp op_lt ha hb (r_I0 (g := fun i j => V.bl (decide (i < j)))) (nomark _)
theorem g_le (ha : G X Γ a (intT i)) (hb : G X Γ b (intT j)) : G X Γ (.Compare a [.LtE] [b] pos) (blT (decide (i ≤ j))) := g_cmp op_le ha hb (r_I0 (g := fun i j => V.bl (decide (i ≤ j)))) (nomark _)
theorem g_gt (ha : G X Γ a (intT i)) (hb : G X Γ b (intT j)) : G X Γ (.Compare a [.Gt] [b] pos) (blT (decide (j < i))) := g_cmp op_gt ha hb (r_I0 (g := fun i j => V.bl (decide (j < i)))) (nomark _)
theorem g_ge (ha : G X Γ a (intT i)) (hb : G X Γ b (intT j)) : G X Γ (.Compare a [.GtE] [b] pos) (blT (decide (j ≤ i))) := g_cmp op_ge ha hb (r_I0 (g := fun i j => V.bl (decide (j ≤ i)))) (nomark _)
theorem gt_eqI (ha : G X Γ a (intT i)) (hb : G X Γ b (intT j)) : GT X Γ (.Compare a [.Eq] [b] pos) (decide (i = j)) := (gt_cmp op_eq ha hb (r_Eq rfl) (nomark _)).is (by simp)
end
/-! truth -/
theorem g_not {k : Bool} (h : G X Γ e (blT k)) : G X Γ (.UnaryOp .Not e pos) (blT (!k)) := fun σ H t Q q => toE (pe_not (pe e)) (h σ H t _ fun v H1 e1 h1 => ⟨k, h1, q _ H1 e1 rfl⟩)
theorem gt_and2 {k l : Bool} (ha : GT X Γ a k) (hb : k = true → GT X Γ b l) : GT X Γ (.BoolOp .And [a, b] pos) (k && l) := fun σ H t Q q => toT (PW.pt (pw_and (pt a) (pw_and1 (pt b)))) (ha σ H t _ fun H1 e1 => by
  cases k with
  | true => exact iteT (hb rfl σ H1 (t.up e1) _ fun H2 e2 => q H2 (e1.trans e2))
  | false => exact iteF (q H1 e1))
theorem gt_or2 {k l : Bool} (ha : GT X Γ a k) (hb : k = false → GT X Γ b l) : GT X Γ (.BoolOp .Or [a, b] pos) (k || l) := fun σ H t Q q => toT (PW.pt (pw_or (pt a) (pw_or1 (pt b)))) (ha σ H t _ fun H1 e1 => by
  cases k with
  | true => exact iteT (q H1 e1)
  | false => exact iteF (hb rfl σ H1 (t.up e1) _ fun H2 e2 => q H2 (e1.trans e2)))
theorem gt_or3 {k l n : Bool} (ha : GT X Γ a k) (hb : k = false → GT X Γ b l) (hc : k = false → l = false → GT X Γ c n) : GT X Γ (.BoolOp .Or [a, b, c] pos) (k || l || n) := fun σ H t Q q => toT (PW.pt (pw_or (pt a) (pw_or (pt b) (pw_or1 (pt c))))) (ha σ H t _ fun H1 e1 => by
  cases k with
  | true => exact iteT (q H1 e1)
  | false => exact iteF (hb rfl σ H1 (t.up e1) _ fun H2 e2 => by
    cases l with
    | true => exact iteT (q H2 (e1.trans e2))
    | false => exact iteF (hc rfl rfl σ H2 (t.up (e1.trans e2)) _ fun H3 e3 => q H3 (e1.trans (e2.trans e3)))))
theorem gt_or4 {k l n r : Bool} (ha : GT X Γ a k) (hb : k = false → GT X Γ b l) (hc : k = false → l = false → GT X Γ c n) (hd : k = false → l = false → n = false → GT X Γ d r) : GT X Γ (.BoolOp .Or [a, b, c, d] pos) (k || l || n || r) := fun σ H t Q q => toT (PW.pt (pw_or (pt a) (pw_or (pt b) (pw_or (pt c) (pw_or1 (pt d)))))) (ha σ H t _ fun H1 e1 => by
  cases k with
  | true => exact iteT (q H1 e1)
  | false => exact iteF (hb rfl σ H1 (t.up e1) _ fun H2 e2 => by
    cases l with
    | true => exact iteT (q H2 (e1.trans e2))
    | false => exact iteF (hc rfl rfl σ H2 (t.up (e1.trans e2)) _ fun H3 e3 => by
      cases n with
      | true => exact iteT (q H3 (e1.trans (e2.trans e3)))
      | false => exact iteF (hd rfl rfl rfl σ H3 (t.up (e1.trans (e2.trans e3))) _ fun H4 e4 => q H4 (e1.trans (e2.trans (e3.trans e4)))))))
theorem g_and2 {k l : Bool} (ha : G X Γ a (blT k)) (hb : k = true → G X Γ b (blT l)) : G X Γ (.BoolOp .And [a, b] pos) (blT (k && l)) := fun σ H t Q q => toE (pe_and (pe a) (pe_one (pe b))) (ha σ H t _ fun v H1 e1 h1 => ⟨k, h1, by
  cases k with
  | true => exact iteT (hb rfl σ H1 (t.up e1) _ fun w H2 e2 h2 => q w H2 (e1.trans e2) h2)
  | false => exact iteF (q _ H1 e1 rfl)⟩)
theorem g_and3 {k l n : Bool} (ha : G X Γ a (blT k)) (hb : k = true → G X Γ b (blT l)) (hc : k = true → l = true → G X Γ c (blT n)) : G X Γ (.BoolOp .And [a, b, c] pos) (blT (k && l && n)) := fun σ H t Q q => toE (pe_and (pe a) (pe_and (pe b) (pe_one (pe c)))) (ha σ H t _ fun v H1 e1 h1 => ⟨k, h1, by
  cases k with
  | false => exact iteF (q _ H1 e1 rfl)
  | true => exact iteT (hb rfl σ H1 (t.up e1) _ fun w H2 e2 h2 => ⟨l, h2, by
    cases l with
    | false => exact iteF (q _ H2 (e1.trans e2) rfl)
    | true => exact iteT (hc rfl rfl σ H2 (t.up (e1.trans e2)) _ fun z H3 e3 h3 => q z H3 (e1.trans (e2.trans e3)) h3)⟩)⟩)
theorem g_ite {k : Bool} (hc : GT X Γ c k) (ha : k = true → G X Γ a T) (hb : k = false → G X Γ b T) : G X Γ (.IfExp c a b pos) T := fun σ H t Q q => toE (pe_ifExp (pt c) (pe a) (pe b)) (hc σ H t _ fun H1 e1 => by
  cases k with
  | true => exact iteT (ha rfl σ H1 (t.up e1) _ fun w H2 e2 h2 => q w H2 (e1.trans e2) h2)
  | false => exact iteF (hb rfl σ H1 (t.up e1) _ fun w H2 e2 h2 => q w H2 (e1.trans e2) h2))
/-! isinstance with a built-in class -/
theorem g_isi {v : V} {n n' : String} {r : Bool} (he : G X Γ e T) (ht : ∀ v H, T v H → TyX X.K H v (.type n)) (hm : X.mg "isinstance" = none) (hx : X.mg x = none) (hv : bootBuiltins x = some (.type n')) (hr : kitB n n' = some r) (hg : Gl X "isinstance" := by rfl) (hg' : Gl X x := by rfl)
    (hd : (x == ("__debug__" : Str)) = false := by decide) (hn : x ≠ "__name__" := by decide) (hs : starEach [e, .Name x p2] X.env = (false, eval e X.env) :: starEach [.Name x p2] X.env := by first | exact se_cons rfl | exact se_one rfl | exact se_two rfl rfl | rfl) (hpl : (backTo pos (starEach [.Name x p2] X.env)).any (·.1) = false := by first | exact se_any rfl | rfl) :
    G X Γ (.Call (.Name "isinstance" p) [e, .Name x p2] [] pos) (blT r) := fun σ H t Q q =>
  toE (pe_callB call_isi hg hm (by decide +kernel) (pa_cons (pe e) (pa_cons (pe_bltn (v := .ty n') hg' hx hv rfl hn hd) pa_nil) hs) (he := hs) (hpl := hpl)) (he σ H t _ fun v H1 e1 h1 => ⟨v, .ty n', .type n, .type n', r, rfl, .ty n', ht v H1 h1, kit_ty hr, q _ H1 e1 rfl⟩)

/-! ### while, by data of the turn -/
variable {H0 : Bs} {D : Ends} {st : Stmt} {rest body orelse : List Stmt}
/-- the ends of a turn: the next turn's data -/
def wturnD {β : Type} (D : Ends) (X : Cx) (rest : List Stmt) (H0 : Bs) (F : β → Ctx) (Pz : β → Prop) (μ : β → Nat) (z : β) : Ends := { D with nx := fun σ H => ∃ z', Pz z' ∧ μ z' < μ z ∧ H0.ok H ∧ Typed σ (F z') H, ct := fun σ H => ∃ z', Pz z' ∧ μ z' < μ z ∧ H0.ok H ∧ Typed σ (F z') H, bk := tB X rest D }
theorem b_while {β : Type} (F : β → Ctx) (Pz : β → Prop) (μ : β → Nat) (z0 : β) (h0 : Γ = F z0) (p0 : Pz z0)
    (hs : ∀ z, Pz z → ∃ k, GT X (F z) c k ∧ (k = true → Bd X (F z) body H0 (wturnD D X rest H0 F Pz μ z)) ∧ (k = false → Bd X (F z) rest H0 D))
    (hp : PassesOwn (model X.prog X.w) X.A X.env X.xe := by exact PassesOwn.never) : Bd X Γ (.While c body [] pos :: rest) H0 D :=
  b_cons fun σ H e0 t => toS (ps_while hp (pt c) (pb body)) (by
    refine ⟨fun m σ H => ∃ z, Pz z ∧ m = μ z ∧ H0.ok H ∧ Typed σ (F z) H, ⟨_, z0, p0, rfl, e0, h0 ▸ t⟩, ?_⟩
    rintro m σ H ⟨z, pz, rfl, e1, t1⟩
    obtain ⟨k, hk, h1, h2⟩ := hs z pz
    refine hk σ H t1 _ fun H1 e2 => ?_
    cases k with
    | true =>
      refine iteT ⟨fun σ' H' => ∃ z', Pz z' ∧ μ z' < μ z ∧ H0.ok H' ∧ Typed σ' (F z') H', fun σ' H' ⟨z', a1, a2, a3, a4⟩ => ⟨μ z', a2, z', a1, rfl, a3, a4⟩, ?_⟩
      exact h1 rfl σ H1 (e1.trans e2) (t1.up e2)
    | false => exact iteF (h2 rfl σ H1 (e1.trans e2) (t1.up e2)))
/-- a turn ends -/
theorem wturn {β : Type} {F : β → Ctx} {Pz : β → Prop} {μ : β → Nat} {z : β} (z' : β) (hp : Pz z') (hm : μ z' < μ z) (hF : Γ = F z') : Bd X Γ [] H0 (wturnD D X rest H0 F Pz μ z) := b_nil fun σ H e t => ⟨z', hp, hm, e, hF ▸ t⟩
/-- x += e -/
theorem b_augI {i : Nat} {n k : Int} (hx : Γ[i]? = some (some (intT n))) (he : G X Γ e (intT k)) (h : Bd X (Γ.set i (some (intT (n + k)))) rest H0 D) {p' : Pos} (hN : X.N.Nodup := by first | assumption | decide) (hi : X.N[i]? = some x := by rfl) (hl : Loc X.env.scope x := by first | exact Or.inl rfl | exact Or.inr rfl)
    (hf : X.fn x = true ∨ X.env.scope.names.lookup x = some .local := by first | exact .inl rfl | exact .inr rfl) : Bd X Γ (.AugAssign (.Name x p') .Add e pos :: rest) H0 D :=
  b_cons fun σ H e0 t => toS (ps_aug (i := i) hN hi hl (pe e) ip_add hf) (by
    obtain ⟨v, hv, tv⟩ := t.get i hx
    have tv' : v = .int n := tv
    subst tv'
    exact ⟨_, hv, he σ H t _ fun w H1 e1 hw => ⟨n, k, rfl, hw, h _ _ (e0.trans e1) ((t.up e1).set i rfl)⟩⟩)
end
end RL

set_option Elab.async false
set_option linter.all false
set_option maxRecDepth 100000
set_option maxHeartbeats 4000000
/-! RLeq: == of data, len of a dict, isinstance with an own class -/
namespace RL
open PySem PySem.Spec PyProof.Rows L2
/-- values of this type are this data -/
def IsDp (K : PySem.W.Frag) (T : Ty) (d : PyData) : Prop := ∀ v H, T v H → Dp K H v d
theorem dp_int {K : PySem.W.Frag} {i : Int} : IsDp K (intT i) (.int i) := fun v H h => by
  have h' : v = .int i := h
  subst h'
  exact .int i
theorem dp_str {K : PySem.W.Frag} {x : Str} : IsDp K (strT x) (.str x) := fun v H h => by
  have h' : v = .str x := h
  subst h'
  exact .str x
theorem dp_bl {K : PySem.W.Frag} {b : Bool} : IsDp K (blT b) (.bool b) := fun v H h => by
  have h' : v = .bl b := h
  subst h'
  exact .bl b
theorem dp_non {K : PySem.W.Frag} : IsDp K nonT .none := fun v H h => by
  have h' : v = .non := h
  subst h'
  exact .non
/-- types and data, one by one -/
inductive AreDp (K : PySem.W.Frag) : List Ty → List PyData → Prop
  | nil : AreDp K [] []
  | cons {T : Ty} {d : PyData} {Ts : List Ty} {ds : List PyData} : IsDp K T d → AreDp K Ts ds → AreDp K (T :: Ts) (d :: ds)
theorem AreDp.all {K : PySem.W.Frag} {H : Hp} : ∀ {Ts : List Ty} {ds : List PyData} {vs : List V}, AreDp K Ts ds → All2 Ts vs H → DpAll K H vs ds
  | _, _, [], .nil, _ => .nil
  | _, _, v :: vs, .cons h hs, ⟨h1, h2⟩ => .cons (h v H h1) (hs.all h2)
theorem areDp_map {α : Type} {K : PySem.W.Frag} {f : α → Ty} {g : α → PyData} : ∀ (l : List α), (∀ x ∈ l, IsDp K (f x) (g x)) → AreDp K (l.map f) (l.map g)
  | [], _ => .nil
  | x :: l, h => .cons (h x List.mem_cons_self) (areDp_map l fun y hy => h y (List.mem_cons_of_mem _ hy))
theorem dp_tup {K : PySem.W.Frag} {Ts : List Ty} {ds : List PyData} (h : AreDp K Ts ds) : IsDp K (tupT K Ts) (.tuple ds) := fun v H ⟨a, vs, ev, ht, h2⟩ => by
  subst ev
  exact .tup ht.sq (h.all h2)
theorem dp_lst {K : PySem.W.Frag} {Ts : List Ty} {ds : List PyData} (h : AreDp K Ts ds) : IsDp K (lstT Ts) (.list ds) := fun v H ⟨a, vs, ev, hl, h2⟩ => by
  subst ev
  exact .lst hl.sq (h.all h2)
theorem room64 {k : Nat} {A : Around} (r : Room k A) : A.units + 64 < cLine := by have := r.un; omega
/-- of such a depth, and such that it can be compared -/
def Lay (n : Nat) (d : PyData) : Prop := d.canLay0 = true ∧ d.depth ≤ n
theorem Lay.mono {n m : Nat} {d : PyData} (h : Lay n d) (k : n ≤ m) : Lay m d := ⟨h.1, Nat.le_trans h.2 k⟩
theorem lay_all {n : Nat} : ∀ {ds : List PyData}, (∀ d ∈ ds, Lay n d) → PyData.canLayAll0 ds = true ∧ PyData.depthAll ds ≤ n
  | [], _ => ⟨by simp [PyData.canLayAll0], by simp [PyData.depthAll]⟩
  | d :: ds, h => by
    obtain ⟨h1, h2⟩ := h d List.mem_cons_self
    obtain ⟨h3, h4⟩ := lay_all fun d' h' => h d' (List.mem_cons_of_mem _ h')
    refine ⟨by rw [PyData.canLayAll0, h1, h3]; rfl, by rw [PyData.depthAll]; exact Nat.max_le.mpr ⟨h2, h4⟩⟩
theorem lay_int {i : Int} : Lay 0 (.int i) := ⟨by simp [PyData.canLay0], by simp [PyData.depth]⟩
theorem lay_bool {b : Bool} : Lay 0 (.bool b) := ⟨by simp [PyData.canLay0], by simp [PyData.depth]⟩
theorem lay_none : Lay 0 .none := ⟨by simp [PyData.canLay0], by simp [PyData.depth]⟩
theorem lay_list {n : Nat} {ds : List PyData} (h : ∀ d ∈ ds, Lay n d) : Lay (n + 1) (.list ds) := by
  obtain ⟨h1, h2⟩ := lay_all h
  exact ⟨by rw [PyData.canLay0]; exact h1, by rw [PyData.depth]; omega⟩
theorem lay_tup {n : Nat} {ds : List PyData} (h : ∀ d ∈ ds, Lay n d) : Lay (n + 1) (.tuple ds) := by
  obtain ⟨h1, h2⟩ := lay_all h
  exact ⟨by rw [PyData.canLay0]; exact h1, by rw [PyData.depth]; omega⟩
theorem Lay.shaped {n : Nat} {d : PyData} (h : Lay n d) (k : n ≤ 64) : SeqAt.shaped d = true := by
  unfold SeqAt.shaped
  rw [h.1, Bool.true_and, decide_eq_true_eq]
  exact Nat.le_trans h.2 k
section
variable {X : Cx} {Γ : Ctx} {e o a b c : Expr} {T U : Ty} {pos p p2 : Pos} {x : Str}
theorem g_eqD {d d' : PyData} (hu : X.A.units + 64 < cLine) (ha : G X Γ a T) (hb : G X Γ b U) (h1 : IsDp X.K T d) (h2 : IsDp X.K U d') (s1 : SeqAt.shaped d = true) (s2 : SeqAt.shaped d' = true) : G X Γ (.Compare a [.Eq] [b] pos) (blT (PyData.eqv d d')) :=
  g_cmp (op_eqD hu) ha hb (fun v w H hv hw Q q => ⟨d, d', h1 v H hv, h2 w H hw, s1, s2, q _ H (Ex.refl H) rfl⟩) (nomark _)
theorem gt_neI {i j : Int} (ha : G X Γ a (intT i)) (hb : G X Γ b (intT j)) : GT X Γ (.Compare a [.NotEq] [b] pos) (decide (i ≠ j)) :=
  (gt_cmp op_ne ha hb (k := decide (i ≠ j)) (fun x y H hx hy Q q => by
    have hx' : x = .int i := hx
    have hy' : y = .int j := hy
    subst hx'; subst hy'
    refine ⟨rfl, q _ H (Ex.refl H) ?_⟩
    show V.bl _ = V.bl _
    by_cases h : i = j <;> simp [h]) (nomark _))
/-- len of a frozen dict -/
theorem call_lenF : CallR X (.builtin "len") (fun xs H Q => ∃ a kvs, xs = [V.ref a] ∧ Rd H a (.dK kvs) ∧ Q (.int kvs.length) H) := by
  intro pins s σ H xs us Q I r h
  obtain ⟨a, kvs, rfl, ha, q⟩ := h
  obtain ⟨u, rfl, ru⟩ := vals1 r
  cases ru
  exact d_len I ha fun t s' I' => ⟨.int kvs.length, H, I', ⟨t, rfl⟩, q⟩
theorem g_lenD {kvs : List (Key × V)} (h : G X Γ e (dicT kvs)) (hm : X.mg "len" = none) (hg : Gl X "len" := by rfl) (he : starEach [e] X.env = (false, eval e X.env) :: starEach [] X.env := by first | exact se_cons rfl | exact se_one rfl | exact se_two rfl rfl | rfl) : G X Γ (.Call (.Name "len" p) [e] [] pos) (intT kvs.length) :=
  g_callB call_lenF hm (by decide +kernel) (ga_cons h ga_nil he) (fun vs H h2 Q q => by
    obtain ⟨v, ev, hv⟩ := one2 h2
    subst ev
    obtain ⟨a, rfl, ha⟩ := rd_dict hv
    exact ⟨a, kvs, rfl, ha, q _ H (Ex.refl H) rfl⟩) hg (he := he)
/-- len of a frozen list, a tuple -/
theorem g_lenL {Ts : List Ty} (h : G X Γ e (lstT Ts)) (hm : X.mg "len" = none) (hg : Gl X "len" := by rfl) (he : starEach [e] X.env = (false, eval e X.env) :: starEach [] X.env := by first | exact se_cons rfl | exact se_one rfl | exact se_two rfl rfl | rfl) : G X Γ (.Call (.Name "len" p) [e] [] pos) (intT Ts.length) :=
  g_callB call_len hm (by decide +kernel) (ga_cons h ga_nil he) (fun vs H h2 Q q => by
    obtain ⟨v, ev, a, ws, e2, f, h3⟩ := one2 h2
    subst ev; subst e2
    exact ⟨_, ws.length, rfl, .inl ⟨ws, f.sq, rfl⟩, q _ H (Ex.refl H) (by show V.int _ = V.int _; rw [h3.len])⟩) hg (he := he)
/-- isinstance with a class of the text, where all are instances -/
theorem g_isO {C : Addr} (he : G X Γ e T) (ht : ∀ v H, T v H → ∃ t, TyX X.K H v t ∧ PySem.W.kitOne X.K t (.ref C) = some true) (hm : X.mg "isinstance" = none) (hx : X.mg x = some (.ref C)) (hg : Gl X "isinstance" := by rfl) (hg' : Gl X x := by rfl)
    (hd : (x == ("__debug__" : Str)) = false := by decide) (hs : starEach [e, .Name x p2] X.env = (false, eval e X.env) :: starEach [.Name x p2] X.env := by first | exact se_cons rfl | exact se_one rfl | exact se_two rfl rfl | rfl) (hs2 : starEach [.Name x p2] X.env = (false, eval (.Name x p2) X.env) :: starEach [] X.env := by first | exact se_cons rfl | exact se_one rfl | exact se_two rfl rfl | rfl) (hpl : (backTo pos (starEach [.Name x p2] X.env)).any (·.1) = false := by first | exact se_any rfl | rfl) :
    G X Γ (.Call (.Name "isinstance" p) [e, .Name x p2] [] pos) (blT true) :=
  g_callB call_isi hm (by decide +kernel) (ga_cons he (ga_cons (g_glob (v := .ref C) hx rfl hg' hd) ga_nil hs2) hs) (fun vs H h2 Q q => by
    match vs, h2 with
    | [v, w], ⟨h3, h4, _⟩ =>
      have h4' : w = V.ref C := h4
      subst h4'
      obtain ⟨t, h5, h6⟩ := ht v H h3
      exact ⟨v, .ref C, t, .ref C, true, rfl, .own C, h5, h6, q _ H (Ex.refl H) rfl⟩) hg (by decide) (by decide) hs hpl
end
end RL

set_option Elab.async false
set_option linter.all false
set_option maxRecDepth 100000
set_option maxHeartbeats 4000000
/-! RLmut: local lists and dicts that are changed -/
namespace RL
open PySem PySem.Spec PyProof.Rows L2

/-! ### a tracked thing is told in another way -/
theorem retr {X : Cx} {pins : List (Addr × Obj)} {σ : L2.St} {H : Hp} {s : Shared} {d : Addr} {u u' : HO} (I : Inv X pins σ H s) (h : H d = some u) (mu : Mut (some u)) (new : ObjOk X.prog X.w (upd H d u') s.heap d u') : Inv X pins σ (upd H d u') s := by
  have ex : ∃ od, s.heap.get? d = some od := by
    have x := I.hok d u h
    cases u with
    | lst xs => obtain ⟨_, _, _, _, e⟩ := x; exact ⟨_, e⟩
    | dK kvs => obtain ⟨_, _, _, _, o, _, _, e, _⟩ := x; exact ⟨o, e⟩
    | dT kvs => obtain ⟨_, _, _, _, o, _, _, e, _⟩ := x; exact ⟨o, e⟩
    | set S n => obtain ⟨o, _, _, _, e, _⟩ := x; exact ⟨o, e⟩
    | ins C dx fs => obtain ⟨_, _, _, e, _⟩ := x; exact ⟨_, e⟩
    | ext φ => obtain ⟨_, ⟨_, e⟩, _⟩ := x; exact ⟨_, e⟩
    | _ => exact False.elim mu
  exact I.write (x := d) (e := d) (t' := s.toks) (h' := s.heap) (by rw [h]; exact mu) (.inl rfl) (fun b v _ q => q) ex new
/-- how a thing may be told anew -/
def Retr (d : Addr) (u u' : HO) : Prop := Mut (some u) ∧ ∀ (P : Program) (w : World) (H H' : Hp) (h : Heap), ObjOk P w H h d u → ObjOk P w H' h d u'
theorem tE_retr {X : Cx} {e : Expr} {σ : L2.St} {H : Hp} {Q : VK} (h : tE X e σ H fun v H' => ∃ d u u', H' d = some u ∧ Retr d u u' ∧ Q v (upd H' d u')) : tE X e σ H Q := ⟨fun pins s I =>
  thn (h.run pins s I) fun _ _ ⟨v, H', I', r, d, u, u', hd, mu, q⟩ => ⟨v, _, retr I' hd mu.1 (mu.2 _ _ _ _ _ (I'.hok d u hd)), r, q⟩⟩
theorem tB_retr {X : Cx} {st : List Stmt} {σ : L2.St} {H : Hp} {D : Ends} {d : Addr} {u u' : HO} (hd : H d = some u) (mu : Retr d u u') (h : tB X st D σ (upd H d u')) : tB X st D σ H := ⟨fun pins s I =>
  h.run pins s (retr I hd mu.1 (mu.2 _ _ _ _ _ (I.hok d u hd)))⟩
/-- what is hidden is looked at -/
theorem tB_open {X : Cx} {st : List Stmt} {σ : L2.St} {H : Hp} {D : Ends} {d : Addr} {α : Type} {φ : Heap → Prop} {u : α → HO} (hd : H d = some (.ext φ)) (ho : ∀ (P : Program) (w : World) (h : Heap), φ h → ∃ a, ∀ H', ObjOk P w H' h d (u a)) (h : ∀ a, tB X st D σ (upd H d (u a))) : tB X st D σ H := by
  refine ⟨fun pins s I => ?_⟩
  have x := I.hok d _ hd
  obtain ⟨f, _, _⟩ := (show φ s.heap ∧ _ ∧ _ from x)
  obtain ⟨a, z⟩ := ho X.prog X.w s.heap f
  exact (h a).run pins s (retr I hd trivial (z _))

/-! ### types of what may change -/
def mdT (a : Addr) (kvs : List (Key × V)) : Ty := ⟨fun v H => v = .ref a ∧ H a = some (.dK kvs), fun e ⟨h1, h2⟩ => ⟨h1, e _ _ h2⟩⟩
def mlT (a : Addr) (Ts : List Ty) : Ty := ⟨fun v H => v = .ref a ∧ ∃ vs, H a = some (.lst vs) ∧ All2 Ts vs H, fun e ⟨h1, vs, h2, h3⟩ => ⟨h1, vs, e _ _ h2, h3.up e⟩⟩
/-- a dict that is read; a list that is read -/
def rdT (kvs : List (Key × V)) : Ty := ⟨fun v H => ∃ a, v = .ref a ∧ Rd H a (.dK kvs), fun {v H H'} e ⟨a, h1, h2⟩ => ⟨a, h1, h2.elim (fun z => .inl (e _ _ z)) fun ⟨o, z⟩ => .inr ⟨o, e _ _ z⟩⟩⟩
def rlT (K : PySem.W.Frag) (Ts : List Ty) : Ty := ⟨fun v H => ∃ a vs, v = .ref a ∧ SqL K H a vs ∧ All2 Ts vs H, fun {v H H'} e ⟨a, vs, h1, h2, h3⟩ => ⟨a, vs, h1, h2.elim (fun z => .inl (z.elim (fun z => .inl (e _ _ z)) fun ⟨o, z⟩ => .inr ⟨o, e _ _ z⟩)) .inr, h3.up e⟩⟩
section
variable {X : Cx} {Γ : Ctx} {e o a b c : Expr} {T U : Ty} {Ts : List Ty} {pos p p2 : Pos} {x : Str} {kvs : List (Key × V)} {d : Addr}
theorem G.rd (h : G X Γ e (dicT kvs)) : G X Γ e (rdT kvs) := h.imp fun v H h => rd_dict h
theorem G.rdm (h : G X Γ e (mdT d kvs)) : G X Γ e (rdT kvs) := h.imp fun v H ⟨h1, h2⟩ => ⟨d, h1, .inl h2⟩
theorem G.rl (h : G X Γ e (lstT Ts)) : G X Γ e (rlT X.K Ts) := h.imp fun v H ⟨a, vs, h1, h2, h3⟩ => ⟨a, vs, h1, h2.sq, h3⟩
theorem G.rlm (h : G X Γ e (mlT d Ts)) : G X Γ e (rlT X.K Ts) := h.imp fun v H ⟨h1, vs, h2, h3⟩ => ⟨d, vs, h1, .inl (.inl h2), h3⟩
end

/-! ### what stays while the thing at a is changed -/
class StbA (a : Addr) (T : Ty) : Prop where
  mu : ∀ {v H u o}, H a = some u → Unf u → T v H → T v (upd H a o)
class StbC (a : Addr) (Γ : Ctx) : Prop where
  mu : ∀ {i : Nat} {T : Ty}, Γ[i]? = some (some T) → StbA a T
instance (a : Addr) (T : Ty) [h : Stb T] : StbA a T := ⟨fun hu un k => h.le (Le.mut hu un) k⟩
theorem stbA_md {a b : Addr} {kvs : List (Key × V)} (h : b ≠ a) : StbA a (mdT b kvs) := ⟨fun _ _ ⟨h1, h2⟩ => ⟨h1, by rw [upd_ne h]; exact h2⟩⟩
theorem stbA_ml {a b : Addr} {Ts : List Ty} [k : Stbs Ts] (h : b ≠ a) : StbA a (mlT b Ts) := ⟨fun hu un ⟨h1, vs, h2, h3⟩ => ⟨h1, vs, by rw [upd_ne h]; exact h2, k.le (Le.mut hu un) h3⟩⟩
instance (a : Addr) : StbC a [] := ⟨fun h => by simp at h⟩
instance (a : Addr) (Γ : Ctx) [k : StbC a Γ] : StbC a (none :: Γ) := ⟨fun {i T} h => by
  cases i with
  | zero => simp at h
  | succ i => exact k.mu (i := i) (by simpa using h)⟩
instance (a : Addr) (T : Ty) (Γ : Ctx) [h : StbA a T] [k : StbC a Γ] : StbC a (some T :: Γ) := ⟨fun {i U} q => by
  cases i with
  | zero => simp at q; subst q; exact h
  | succ i => exact k.mu (i := i) (by simpa using q)⟩
theorem stbC_none {a : Addr} {Γ : Ctx} (k : StbC a Γ) : StbC a (none :: Γ) := inferInstance
theorem stbC_some {a : Addr} {T : Ty} {Γ : Ctx} (h : StbA a T) (k : StbC a Γ) : StbC a (some T :: Γ) := inferInstance
theorem stbC_nil {a : Addr} : StbC a [] := inferInstance
theorem Typed.mut {σ : L2.St} {Γ : Ctx} {H : Hp} {a : Addr} {u o : HO} (h : Typed σ Γ H) (k : StbC a Γ) (hu : H a = some u) (un : Unf u) : Typed σ Γ (upd H a o) := ⟨h.1, fun i T g => let ⟨v, e, t⟩ := h.2 i T g; ⟨v, e, (k.mu g).mu hu un t⟩⟩
/-- a slot's word is put in place of another -/
theorem Typed.put {σ : L2.St} {Γ : Ctx} {H : Hp} {T : Ty} {v : V} {i : Nat} (h : Typed σ (Γ.set i none) H) (hi : i < Γ.length) (hv : σ[i]? = some (some v)) (t : T v H) : Typed σ (Γ.set i (some T)) H := by
  refine ⟨by simpa using h.1, fun j U g => ?_⟩
  by_cases c : j = i
  · subst c
    rw [List.getElem?_set_self hi] at g
    cases g
    exact ⟨v, hv, t⟩
  · refine h.2 j U ?_
    rw [List.getElem?_set_ne (Ne.symm c)] at g ⊢
    exact g
theorem Typed.drop {σ : L2.St} {Γ : Ctx} {H : Hp} (i : Nat) (h : Typed σ Γ H) : Typed σ (Γ.set i none) H := by
  refine ⟨by simpa using h.1, fun j U g => ?_⟩
  by_cases c : j = i
  · subst c
    rw [List.getElem?_set_self'] at g
    cases q : Γ[j]? with
    | none => rw [q] at g; cases g
    | some _ => rw [q] at g; cases g
  · rw [List.getElem?_set_ne (Ne.symm c)] at g
    exact h.2 j U g
theorem Bs.ok.mut {B : Bs} {H : Hp} {a : Addr} {u o : HO} (h : B.ok H) (ha : B.e a = none) (hu : H a = some u) (un : Unf u) : B.ok (upd H a o) := ⟨h.1.mut ha, h.2.trans (Le.mut hu un)⟩

/-! ### statements -/
section
variable {X : Cx} {Γ : Ctx} {e o k c : Expr} {T U : Ty} {Ts : List Ty} {pos p p2 p3 p4 : Pos} {x : Str} {kvs : List (Key × V)} {H0 : Bs} {D : Ends} {rest : List Stmt} {i : Nat} {a : Addr}
/-- x = {} -/
theorem b_newD (i : Nat) (h : ∀ a, H0.e a = none → Bd X (Γ.set i (some (mdT a []))) rest H0 D) {p' : Pos} (hN : X.N.Nodup := by first | assumption | decide) (hi : X.N[i]? = some x := by rfl) (hx : Loc X.env.scope x := by first | exact Or.inl rfl | exact Or.inr rfl)
    (hs : swapsWith (.Dict [] [] p2) (some (.Name x p')) pos.line X.env = pure false := by rfl) (hf : X.fn x = true ∨ X.env.scope.names.lookup x = some .local := by first | exact .inl rfl | exact .inr rfl) : Bd X Γ (.Assign [.Name x p'] (.Dict [] [] p2) pos :: rest) H0 D :=
  b_cons fun σ H e0 t => toS (ps_set (i := i) hN hi hx pe_dnewK hs hf) fun q hq => h q (e0.1.free hq) _ _ (e0.trans (Ex.new hq)) ((t.up (Ex.new hq)).set i ⟨rfl, upd_same⟩)
/-- x[k] = e -/
theorem b_dput (i : Nat) {kk : Key} {v : V} (hT : Γ[i]? = some (some (mdT a kvs))) (hk : G X Γ k (valT (kV kk))) (he : G X Γ e (valT v)) (ha : H0.e a = none) (hl : kvs.length < sizeLine) (hS : StbC a (Γ.set i none)) (hu : X.A.units + 1 < cLine)
    (h : Bd X (Γ.set i (some (mdT a (putK kvs kk v)))) rest H0 D) {p' : Pos} (hN : X.N[i]? = some x := by rfl) (hv : Vis X.env.scope x := by first | exact Or.inl rfl | exact Or.inr (Or.inl rfl) | exact Or.inr (Or.inr rfl)) (hd : (x == ("__debug__" : Str)) = false := by decide) (hcd : (x == ("__classdict__" : Str)) = false := by decide)
    (hs : swapsWith e (some (.Subscript (.Name x p2) k p')) pos.line X.env = pure false := by rfl) : Bd X Γ (.Assign [.Subscript (.Name x p2) k p'] e pos :: rest) H0 D :=
  b_cons fun σ H e0 t => toS (ps_dput hu (pe_var (i := i) hN hv hd hcd) (pe k) (pe e) hs) (he σ H t _ fun v1 H1 e1 h1 => by
    obtain ⟨w, hw, ew, hH⟩ := (t.up e1).get i hT
    refine ⟨w, hw, hk σ H1 (t.up e1) _ fun y H2 e2 h2 => ?_⟩
    have h1' : v1 = v := h1
    have h2' : y = kV kk := h2
    subst h1'; subst h2'
    have hH2 := e2 _ _ hH
    refine ⟨a, _, ew, DPut.k hH2 hl, h _ _ ((e0.trans (e1.trans e2)).mut ha hH2 trivial) (Typed.put (((t.up (e1.trans e2)).drop i).mut hS hH2 trivial) ?_ hw ⟨ew, upd_same⟩)⟩
    exact (List.getElem?_eq_some_iff.mp hT).1)
/-- the dict of a slot is frozen -/
theorem b_frzD (i : Nat) (hT : Γ[i]? = some (some (mdT a kvs))) (ha : H0.e a = none) (hS : StbC a (Γ.set i none)) (h : Bd X (Γ.set i (some (dicT kvs))) rest H0 D) : Bd X Γ rest H0 D := fun σ H e0 t => by
  obtain ⟨w, hw, ew, hH⟩ := t.get i hT
  refine tB_frz hH trivial fun od => h _ _ (e0.mut ha hH trivial) (Typed.put ((t.drop i).mut hS hH trivial) ?_ hw ⟨a, od, ew, upd_same⟩)
  exact (List.getElem?_eq_some_iff.mp hT).1
/-- the list of a slot is frozen -/
theorem b_frzL [hT' : Stbs Ts] (i : Nat) (hT : Γ[i]? = some (some (mlT a Ts))) (ha : H0.e a = none) (hS : StbC a (Γ.set i none)) (h : Bd X (Γ.set i (some (lstT Ts))) rest H0 D) : Bd X Γ rest H0 D := fun σ H e0 t => by
  obtain ⟨w, hw, ew, vs, hH, h2⟩ := t.get i hT
  refine tB_frz hH trivial fun od => h _ _ (e0.mut ha hH trivial) (Typed.put ((t.drop i).mut hS hH trivial) ?_ hw ⟨a, vs, ew, ⟨od, upd_same⟩, hT'.le (Le.mut hH trivial) h2⟩)
  exact (List.getElem?_eq_some_iff.mp hT).1
/-- x[k] = e, x a list -/
theorem All2.set {H : Hp} {T : Ty} {v : V} : ∀ {Ts : List Ty} {vs : List V} {j : Nat}, All2 Ts vs H → T v H → All2 (Ts.set j T) (vs.set j v) H
  | [], [], _, h, _ => h
  | _ :: _, _ :: _, 0, ⟨_, b⟩, t => ⟨t, b⟩
  | _ :: _, _ :: _, j + 1, ⟨a, b⟩, t => ⟨a, All2.set (j := j) b t⟩
  | [], _ :: _, _, h, _ => h.elim
  | _ :: _, [], _, h, _ => h.elim
theorem b_setL [hTs : Stbs Ts] [hSt : Stb T] (i : Nat) {n : Int} (j : Nat) (hT : Γ[i]? = some (some (mlT a Ts))) (hk : G X Γ k (intT n)) (he : G X Γ e T) (hj : ixN Ts.length n = some j) (ha : H0.e a = none) (hS : StbC a (Γ.set i none))
    (h : Bd X (Γ.set i (some (mlT a (Ts.set j T)))) rest H0 D) {p' : Pos} (hN : X.N[i]? = some x := by rfl) (hv : Vis X.env.scope x := by first | exact Or.inl rfl | exact Or.inr (Or.inl rfl) | exact Or.inr (Or.inr rfl)) (hd : (x == ("__debug__" : Str)) = false := by decide) (hcd : (x == ("__classdict__" : Str)) = false := by decide)
    (hs : swapsWithSole [.Subscript (.Name x p2) k p'] e pos.line X.env = pure false := by rfl) (hw : swappedStores [.Subscript (.Name x p2) k p'] e X.env = pure none := by rfl)
    (h1 : (assignEach [.Subscript (.Name x p2) k p'] X.env).map (·.2) = [assign (.Subscript (.Name x p2) k p') X.env] := by rfl)
    (has : ∀ v, assign (.Subscript (.Name x p2) k p') X.env v = (do
      let ov ← holding [v] (eval (.Name x p2) X.env)
      let iv ← holding [v, ov] (eval k X.env)
      standAt p'
      holding [v, ov, iv] (setItem ov iv v)
      release [v, ov, iv] []) := by intro _; rfl) : Bd X Γ (.Assign [.Subscript (.Name x p2) k p'] e pos :: rest) H0 D :=
  b_cons fun σ H e0 t => toS (ps_asg (pe e) (pg_sub (pe_var (i := i) hN hv hd hcd) (pe k) set_list has) hs hw h1) (he σ H t _ fun v1 H1 e1 h1 => by
    obtain ⟨w, hw, ew, vs, hH, h3⟩ := (t.up e1).get i hT
    refine ⟨w, hw, hk σ H1 (t.up e1) _ fun y H2 e2 h2 => ?_⟩
    have h2' : y = .int n := h2
    subst h2'
    have hH2 := e2 _ _ hH
    refine ⟨a, vs, n, j, ew, rfl, hH2, by rw [← h3.len]; exact hj, h _ _ ((e0.trans (e1.trans e2)).mut ha hH2 trivial) (Typed.put (((t.up (e1.trans e2)).drop i).mut hS hH2 trivial) ?_ hw ⟨ew, _, upd_same, ?_⟩)⟩
    · exact (List.getElem?_eq_some_iff.mp hT).1
    · exact All2.set (hTs.le (Le.mut hH2 trivial) (h3.up e2)) (hSt.le (Le.mut hH2 trivial) (T.up e2 h1)))
end

/-! ### reading -/
section
variable {X : Cx} {Γ : Ctx} {e o a b c : Expr} {T U : Ty} {Ts : List Ty} {pos p p2 : Pos} {x : Str} {kvs : List (Key × V)}
theorem All2.atI {H : Hp} {Ts : List Ty} {vs : List V} {n : Int} {T : Ty} (h : All2 Ts vs H) (g : L2.atI Ts n = some T) : ∃ v, L2.atI vs n = some v ∧ T v H := by
  unfold L2.atI at g ⊢
  rw [← h.len]
  cases q : ixN Ts.length n with
  | none => rw [q] at g; cases g
  | some j => rw [q] at g; exact h.get g
/-- l[n], l a list that is read -/
theorem g_ixL {n : Int} (ho : G X Γ o (rlT X.K Ts)) (hk : G X Γ e (intT n)) (hT : L2.atI Ts n = some T := by rfl) (hs : PlainIx e := by exact fun _ _ => rfl) : G X Γ (.Subscript o e pos) T := fun σ H t Q q =>
  toE (pe_ix ix_list (pe o) (pe e) hs) (ho σ H t _ fun v H1 e1 h1 => hk σ H1 (t.up e1) _ fun w H2 e2 h2 => by
    obtain ⟨l, vs, ev, hl, ha⟩ := (rlT X.K Ts).up e2 h1
    have h2' : w = .int n := h2
    subst h2'
    obtain ⟨y, hy, ty⟩ := ha.atI hT
    exact ⟨l, vs, n, y, ev, rfl, hl, hy, q y H2 (e1.trans e2) ty⟩)
theorem g_ixT {n : Int} (ho : G X Γ o (tupT X.K Ts)) (hk : G X Γ e (intT n)) (hT : L2.atI Ts n = some T := by rfl) (hs : PlainIx e := by exact fun _ _ => rfl) : G X Γ (.Subscript o e pos) T := fun σ H t Q q =>
  toE (pe_ix ix_tup (pe o) (pe e) hs) (ho σ H t _ fun v H1 e1 h1 => hk σ H1 (t.up e1) _ fun w H2 e2 h2 => by
    obtain ⟨l, vs, ev, hl, ha⟩ := (tupT X.K Ts).up e2 h1
    have h2' : w = .int n := h2
    subst h2'
    obtain ⟨y, hy, ty⟩ := ha.atI hT
    exact ⟨l, vs, n, y, ev, rfl, hl.sq, hy, q y H2 (e1.trans e2) ty⟩)
/-- len -/
theorem g_lenR (h : G X Γ e (rdT kvs)) (hm : X.mg "len" = none) (hg : Gl X "len" := by rfl) (he : starEach [e] X.env = (false, eval e X.env) :: starEach [] X.env := by first | exact se_cons rfl | exact se_one rfl | exact se_two rfl rfl | rfl) : G X Γ (.Call (.Name "len" p) [e] [] pos) (intT kvs.length) :=
  g_callB call_lenF hm (by decide +kernel) (ga_cons h ga_nil he) (fun vs H h2 Q q => by
    obtain ⟨v, ev, a, hv, ha⟩ := one2 h2
    subst ev; subst hv
    exact ⟨a, kvs, rfl, ha, q _ H (Ex.refl H) rfl⟩) hg (he := he)
theorem g_lenRL (h : G X Γ e (rlT X.K Ts)) (hm : X.mg "len" = none) (hg : Gl X "len" := by rfl) (he : starEach [e] X.env = (false, eval e X.env) :: starEach [] X.env := by first | exact se_cons rfl | exact se_one rfl | exact se_two rfl rfl | rfl) : G X Γ (.Call (.Name "len" p) [e] [] pos) (intT Ts.length) :=
  g_callB call_len hm (by decide +kernel) (ga_cons h ga_nil he) (fun vs H h2 Q q => by
    obtain ⟨v, ev, a, ws, e2, f, h3⟩ := one2 h2
    subst ev; subst e2
    exact ⟨_, ws.length, rfl, .inl ⟨ws, f, rfl⟩, q _ H (Ex.refl H) (by show V.int _ = V.int _; rw [h3.len])⟩) hg (he := he)
theorem g_lenT (h : G X Γ e (tupT X.K Ts)) (hm : X.mg "len" = none) (hg : Gl X "len" := by rfl) (he : starEach [e] X.env = (false, eval e X.env) :: starEach [] X.env := by first | exact se_cons rfl | exact se_one rfl | exact se_two rfl rfl | rfl) : G X Γ (.Call (.Name "len" p) [e] [] pos) (intT Ts.length) :=
  g_callB call_len hm (by decide +kernel) (ga_cons h ga_nil he) (fun vs H h2 Q q => by
    obtain ⟨v, ev, a, ws, e2, f, h3⟩ := one2 h2
    subst ev; subst e2
    exact ⟨_, ws.length, rfl, .inr ⟨ws, f.sq, rfl⟩, q _ H (Ex.refl H) (by show V.int _ = V.int _; rw [h3.len])⟩) hg (he := he)
end
end RL

set_option Elab.async false
set_option linter.all false
set_option maxRecDepth 100000
set_option maxHeartbeats 4000000
/-! RLenum: enumerate of a tuple, of a frozen list -/
namespace RL
open PySem PySem.Spec PyProof.Rows L2
theorem enumNew1 {v : Value} {o : Obj} {Hb : Heap → Prop} (B : Begins v o Hb) :
    Meets (Builtin.«enumerate.__new__» ⟨[.type "enumerate", v], []⟩) (fun _ R s => Hb s.heap ∧
      R (.ok (.ret (.ref (s.heap.push o).objs.size))) { s with heap := (s.heap.push o).push { cls := .type "enumerate", data := .fields #[.none, .bool false, .ref s.heap.objs.size, rawInt 0, .none, .none] } }) :=
  .of_wp fun prog w A R s h => by
    obtain ⟨hp, g, d, tk, os⟩ := s
    obtain ⟨h1, h⟩ := h
    have hsub := sub_enumerate
    have bi : ∀ {A' : Around} {E Q : Value → Shared → Prop}, Q (.ref hp.objs.size) ⟨hp.push o, g, d, tk, os⟩ → wpAny (model prog w) A' (pyIter v) Q E ⟨hp, g, d, tk, os⟩ := fun q => B.iter prog w _ _ ⟨hp, g, d, tk, os⟩ _ h1 q
    wp_walk using bi
    refine wpAny_stack_any fun st => wpAny_pure ?_
    split
    · rename_i c _ _ _ _ _
      cases (c == Value.type "enumerate") <;> (wp_walk using bi; exact ⟨_, rfl, h⟩)
    · wp_walk using bi
      exact ⟨_, rfl, h⟩
theorem enumCall1 {prog : Program} {w : World} {A : Around} {E : Value → Shared → Prop} {s : Shared} {v : Value} {o : Obj} {Hb : Heap → Prop} {Q : Value → Shared → Prop} (B : Begins v o Hb) (h1 : Hb s.heap)
    (h : ∀ h', IsEnum h' (s.heap.objs.size + 1) s.heap.objs.size ((0 : Nat) : Int) .none → h'.get? s.heap.objs.size = some o → (∀ b o, s.heap.get? b = some o → h'.get? b = some o) → Q (.ref (s.heap.objs.size + 1)) { s with heap := h' }) :
    wpAny (model prog w) A (call (.type "enumerate") [v]) Q E s := by
  refine callType_new F.called_enumerate (by decide) (F.typeCall_enumerate_1 _) (F.newCall_enumerate_1 _) (fun obj => F.args_object_init_2 obj _) F.entry_enumerate_new (enumNew1 B) ⟨h1, ?_⟩
  have sz : (s.heap.push o).objs.size = s.heap.objs.size + 1 := Heap.size_push ..
  have he : ∀ e : Obj, e.isFreed = false → ((s.heap.push o).push e).get? (s.heap.objs.size + 1) = some e := fun e fr => by
    have q := Heap.get?_push_size (s.heap.push o) (o := e) fr
    rwa [sz] at q
  show _ ∧ _
  rw [sz]
  exact ⟨⟨_, he _ rfl, rfl⟩, h _ (he _ rfl) (Heap.get?_push_of_some _ (Heap.get?_push_size _ B.free)) fun b u x => Heap.get?_push_of_some _ (Heap.get?_push_of_some _ x)⟩
/-- what enumerate of the tuple at a gives: pairs, newly laid -/
def ItP (K : PySem.W.Frag) (a : Addr) : It :=
  ⟨fun i H => ∃ xs x, SqT K H a xs ∧ xs[i]? = some x, fun i H v H' => ∃ t x, v = .ref t ∧ H t = none ∧ H' = upd H t (.tup [.int (i : Nat), x]) ∧ ∀ xs, SqT K H a xs → xs[i]? = some x, fun i H => ∃ xs, SqT K H a xs ∧ xs.length = i⟩
theorem turnP {P : Program} {w : World} {K : PySem.W.Frag} {elts : List Expr} {kk : Nat} {tpos : Pos} (a e it : Addr) (hai : a ≠ it) :
    Turn P w K (.Tuple elts kk tpos) (ItP K a) [e, it] e (fun i h => (∃ old, IsEnum h e it ((i : Nat) : Int) old) ∧ h.IsTupleIter it a i ∧ e ≠ it ∧ e ≠ a) where
  mem := List.mem_cons_self
  obj := fun i h ⟨⟨old, he⟩, ⟨o, ho, hc, hd⟩, _⟩ b hb => by
    rcases List.mem_cons.mp hb with rfl | hb
    · exact ⟨_, he, fun v q => nomatch q⟩
    · rw [List.mem_singleton.mp hb]
      exact ⟨o, ho, fun v q => by rw [hd] at q; cases q⟩
  keep := fun i h h' ⟨⟨old, he⟩, hi, hne⟩ k => ⟨⟨old, k e (by simp) _ he⟩, hi.at fun o q => k it (by simp) o q, hne⟩
  item := by
    intro X hP hw hK hc i pins s σ H E I hf ⟨⟨old, he⟩, hit, hne, hea⟩ ⟨xs, x, hq, hx⟩
    subst hP hw hK
    obtain ⟨its, rv, p, _⟩ := I.tuple hq
    obtain ⟨u, hu, ru⟩ := rv.get hx
    have D := Draws.tuple (prog := X.prog) (w := X.w) (A := X.A.in1) (I.ok.hd hc) it a hai its.toArray
    have lt_e : e < s.heap.objs.size := Heap.lt_size he
    have lt_i : it < s.heap.objs.size := by obtain ⟨_, q, _⟩ := hit; exact Heap.lt_size q
    refine wpAny_pyNext_enum_itemD D he ⟨hit, p⟩ (by simp; exact (List.getElem?_eq_some_iff.mp hu).1) hne (by simp [hne, hea]) fun y h' tk hy ho ⟨hit', _⟩ hT _ hk => ?_
    have ey : y = u := by
      have z : its[i]? = some y := by simpa using hy
      rw [hu] at z
      exact (Option.some.inj z).symm
    subst ey
    refine ⟨_, rfl, wpAny_letOwnedTupleGo_enum (s := { s with heap := h', toks := tk + 1 }) ho fun h2 he2 sb => ?_⟩
    have hT2 := (sb.2 _ (Nat.ne_of_gt lt_e)).trans hT
    have new : ObjOk X.prog X.w (upd H s.heap.objs.size (.tup [.int (i : Nat), x])) h2 s.heap.objs.size (.tup [.int (i : Nat), x]) :=
      ⟨(by decide : 2 ≤ sizeLine), [.int i tk, y], .cons ⟨_, rfl⟩ (.cons ru .nil), ⟨_, hT2, rfl, _, rfl⟩⟩
    have J : Inv X pins σ (upd H s.heap.objs.size (.tup [.int (i : Nat), x])) { s with heap := h2, toks := tk + 1 } :=
      I.turnedNew (ch := [e, it]) (fun b ob hb q => (sb.2 b (fun z => hb (by simp [z]))).trans (hk b ob (fun z => hb (by simp [z])) (fun z => hb (by simp [z])) q)) hf (Nat.le_refl _) new
    refine ⟨.ref s.heap.objs.size, _, J, rfl, ⟨_, x, rfl, I.hok.fresh (Nat.le_refl _), rfl, fun ys hy => by rw [I.tuple_inj hy hq]; exact hx⟩, ⟨⟨y, by rw [show ((i + 1 : Nat) : Int) = (i : Int) + 1 by omega]; exact he2⟩, hit'.at fun o q => (sb.2 it (Ne.symm hne)).trans q, hne, hea⟩, fun b hb => ?_⟩
    have lt_b : b < s.heap.objs.size := by
      rcases List.mem_cons.mp hb with rfl | hb
      · exact lt_e
      · rw [List.mem_singleton.mp hb]; exact lt_i
    rw [upd_ne (Nat.ne_of_lt lt_b)]
    exact (hf b hb).1
  done := by
    intro X hP hw hK hc i pins s σ H E I hf ⟨⟨old, he⟩, hit, hne, hea⟩ ⟨xs, hq, hx⟩
    subst hP hw hK
    obtain ⟨its, rv, p, _⟩ := I.tuple hq
    obtain ⟨f0, f1, f2, f3, f4, f5⟩ := hf it (by simp)
    have D := Draws.tuple (prog := X.prog) (w := X.w) (A := X.A.in1) (I.ok.hd hc) it a hai its.toArray
    have ei : i = its.toArray.size := by rw [← hx, List.size_toArray]; exact rv.length
    exact wpAny_pyNext_enum_endD D he ⟨by rw [← ei]; exact hit, p⟩ fun h' eb => ⟨rfl, I.turned (t' := s.toks) (fun b o hb q => eb b o hb q) f0 f1 f3 f4 f5⟩
  self := fun A i s Q E ⟨⟨_, he⟩, _⟩ h => wpAny_pyIter_enum he h
/-- enumerate(t): pairs of an index and an item -/
def enumT (K : PySem.W.Frag) (Ts : List Ty) : List Ty := Ts.mapIdx fun i T => tupT K [intT (i : Nat), T]
theorem enumT_len {K : PySem.W.Frag} {Ts : List Ty} : (enumT K Ts).length = Ts.length := by simp [enumT]
theorem enumT_get {K : PySem.W.Frag} {Ts : List Ty} {i : Nat} {T : Ty} (h : Ts[i]? = some T) : (enumT K Ts)[i]? = some (tupT K [intT (i : Nat), T]) := by simp [enumT, List.getElem?_mapIdx, h]
section
variable {X : Cx} {Γ : Ctx} {e : Expr} {Ts : List Ty} {p pos tpos : Pos} {elts : List Expr} {kk : Nat}
theorem gi_enumT [hS : Stbs Ts] (h : G X Γ e (tupT X.K Ts)) (hm : X.mg "enumerate" = none) (hg : Gl X "enumerate" := by rfl) (hs : starEach [e] X.env = (false, eval e X.env) :: starEach [] X.env := by first | exact se_cons rfl | exact se_one rfl | exact se_two rfl rfl | rfl) (hs2 : starEach [e] X.env = [(false, eval e X.env)] := by first | exact se_cons rfl | exact se_one rfl | exact se_two rfl rfl | rfl) :
    GI X Γ (.Tuple elts kk tpos) (.Call (.Name "enumerate" p) [e] [] pos) (enumT X.K Ts) := fun σ H t Q q => by
  refine ⟨fun pins s I => ?_⟩
  have hA : tA X [e] σ H fun vs H2 => ∃ a xs, vs = [V.ref a] ∧ PerT X.K H2 a xs ∧ All2 Ts xs H2 ∧ Ex H H2 := ga_cons h ga_nil hs σ H t _ fun vs H2 e2 h2 => by
    obtain ⟨v, ev, a, xs, ev2, hp, ha⟩ := one2 h2
    subst ev; subst ev2
    exact ⟨a, xs, rfl, hp, ha, e2⟩
  refine Call_ (ld_blt I hg hm boot_enumerate (PyProof.Rows.callWith_type1 (thn (hA.run pos pins s I) fun us s1 z => ?_) hs2 rfl))
  obtain ⟨vs, H1, I1, r1, a, xs, ev, hp, ha, e1⟩ := z
  subst ev
  cases r1 with
  | cons r rr =>
    cases rr
    cases r
    obtain ⟨its, rv, ht, hz⟩ := I1.tuple hp.sq
    have ht' : s1.heap.IsTuple a its.toArray := ht
    have lt_a : a < s1.heap.objs.size := by obtain ⟨o, q, _⟩ := ht'; exact Heap.lt_size q
    refine enumCall1 (begins_tuple a its.toArray) ht' fun h' he hit hk => wpAny_pyIter_enum he ?_
    have I2 : Inv X pins σ H1 { s1 with heap := h' } := I1.kept (t' := s1.toks) hk
    refine ⟨s1.heap.objs.size + 1, [s1.heap.objs.size + 1, s1.heap.objs.size], _, _, H1, rfl, I2, turnP a (s1.heap.objs.size + 1) s1.heap.objs.size (Nat.ne_of_lt lt_a), ⟨⟨.none, he⟩, ⟨_, hit, rfl, rfl⟩, Nat.succ_ne_self _, Nat.ne_of_gt (Nat.lt_succ_of_lt lt_a)⟩, fun b hb => ?_, q _ H1 e1 fun i H' e => ⟨fun hi => ?_, fun hi => ⟨xs, (hp.le e).sq, by rw [hi, enumT_len, ha.len]⟩⟩⟩
    · have hle : s1.heap.objs.size ≤ b := by
        rcases List.mem_cons.mp hb with rfl | hb
        · exact Nat.le_succ _
        · rw [List.mem_singleton.mp hb]; exact Nat.le_refl _
      exact I1.fpOk hle (I1.hok.fresh hle)
    · rw [enumT_len] at hi
      obtain ⟨v, hv, tv⟩ := (hS.le e ha).get (List.getElem?_eq_getElem hi)
      refine ⟨⟨xs, v, (hp.le e).sq, hv⟩, fun x H2 hy => ?_⟩
      obtain ⟨T, y, ex, hn, eH, hx⟩ := hy
      subst ex; subst eH
      have hy' := hx xs (hp.le e).sq
      rw [hv] at hy'
      cases hy'
      exact ⟨Ex.new hn, _, enumT_get (List.getElem?_eq_getElem hi), T, _, rfl, .inl upd_same, rfl, Ts[i].up (Ex.new hn) tv, trivial⟩
end
end RL

/-! NumMath: plain mathematics of numbers as lists of pairs; core Lean only -/
namespace NM
/-- whether n is a prime, by trial division -/
def isPB (n : Int) : Bool := decide (2 ≤ n) && (List.range n.toNat).all fun d => decide (d < 2) || decide (n < (d : Int) * d) || decide (n % (d : Int) ≠ 0)
theorem isPB_hit {n d : Int} (h2 : 2 ≤ d) (hd : d * d ≤ n) (h0 : n % d = 0) : isPB n = false := by
  unfold isPB
  have hdn : d < n := by
    have : d * 2 ≤ d * d := Int.mul_le_mul_of_nonneg_left h2 (by omega)
    omega
  rw [Bool.and_eq_false_iff]
  right
  rw [List.all_eq_false]
  refine ⟨d.toNat, List.mem_range.mpr (by omega), ?_⟩
  have e : ((d.toNat : Nat) : Int) = d := by omega
  rw [e]
  simp only [Bool.or_eq_true, decide_eq_true_eq, not_or]
  refine ⟨⟨by omega, by omega⟩, by simpa using h0⟩
theorem isPB_none {n d : Int} (h2 : 2 ≤ n) (hd2 : 2 ≤ d) (hd : n < d * d) (hno : ∀ c : Int, 2 ≤ c → c < d → n % c ≠ 0) : isPB n = true := by
  unfold isPB
  rw [Bool.and_eq_true, decide_eq_true_eq]
  refine ⟨h2, List.all_eq_true.mpr fun c hc => ?_⟩
  rw [List.mem_range] at hc
  simp only [Bool.or_eq_true, decide_eq_true_eq]
  by_cases c1 : c < 2
  · exact .inl (.inl c1)
  by_cases c2 : n < (c : Int) * c
  · exact .inl (.inr c2)
  right
  refine hno c (by omega) ?_
  have c2 : (c : Int) * c ≤ n := by omega
  have c1 : (2 : Int) ≤ c := by omega
  refine Int.lt_of_not_ge fun h => ?_
  have : d * d ≤ (c : Int) * c := Int.mul_le_mul h h (by omega) (by omega)
  omega
theorem isPB_small {n : Int} (h : n < 2) : isPB n = false := by
  unfold isPB
  rw [Bool.and_eq_false_iff]
  left
  simpa using h

abbrev NK := List (Int × Int)
def look (l : NK) (p : Int) : Int := ((l.find? fun q => decide (q.1 = p)).map (·.2)).getD 0
structure Canon (l : NK) : Prop where
  asc : (l.map (·.1)).Pairwise (· < ·)
  pos : ∀ q ∈ l, 0 < q.2
/-! ascending lists without duplicates -/
def insU (p : Int) : List Int → List Int
  | [] => [p]
  | q :: r => if p < q then p :: q :: r else if p = q then q :: r else q :: insU p r
def sortU (l : List Int) : List Int := l.foldr insU []
theorem insU_mem {p a : Int} : ∀ {l : List Int}, a ∈ insU p l ↔ a = p ∨ a ∈ l
  | [] => by simp [insU]
  | q :: r => by
    unfold insU
    split
    · simp
    · split
      · rename_i h; subst h; simp
      · rw [List.mem_cons, insU_mem, List.mem_cons]
        constructor
        · rintro (h | h | h)
          · exact .inr (.inl h)
          · exact .inl h
          · exact .inr (.inr h)
        · rintro (h | h | h)
          · exact .inr (.inl h)
          · exact .inl h
          · exact .inr (.inr h)
theorem insU_pw {p : Int} : ∀ {l : List Int}, l.Pairwise (· < ·) → (insU p l).Pairwise (· < ·)
  | [], _ => by simp [insU]
  | q :: r, h => by
    unfold insU
    obtain ⟨h1, h2⟩ := List.pairwise_cons.mp h
    split
    · rename_i c
      refine List.pairwise_cons.mpr ⟨fun x hx => ?_, h⟩
      rcases List.mem_cons.mp hx with rfl | hx
      · exact c
      · have := h1 x hx; omega
    · split
      · exact h
      · refine List.pairwise_cons.mpr ⟨fun x hx => ?_, insU_pw h2⟩
        rcases insU_mem.mp hx with rfl | hx
        · omega
        · exact h1 x hx
theorem sortU_mem {l : List Int} {a : Int} : a ∈ sortU l ↔ a ∈ l := by
  unfold sortU
  induction l with
  | nil => simp
  | cons p l ih => rw [List.foldr_cons, insU_mem, ih, List.mem_cons]
theorem pw_lt {l : List Int} (h : l.Pairwise (· ≤ ·)) (nd : l.Nodup) : l.Pairwise (· < ·) := by
  have := List.Pairwise.and h nd
  exact this.imp fun h => by omega
theorem sortU_pw (l : List Int) : (sortU l).Pairwise (· < ·) := by
  unfold sortU
  induction l with
  | nil => exact List.Pairwise.nil
  | cons p l ih => exact insU_pw ih
theorem insU_len (p : Int) : ∀ l : List Int, (insU p l).length ≤ l.length + 1
  | [] => by simp [insU]
  | q :: r => by
    unfold insU
    have := insU_len p r
    split
    · simp
    · split
      · simp
      · simpa using this
theorem sortU_len (l : List Int) : (sortU l).length ≤ l.length := by
  unfold sortU
  induction l with
  | nil => simp
  | cons p l ih =>
    rw [List.foldr_cons, List.length_cons]
    exact Nat.le_trans (insU_len _ _) (by omega)
theorem nodup_of_lt {l : List Int} (h : l.Pairwise (· < ·)) : l.Nodup := h.imp fun h e => by omega
theorem eq_of_lt {a b : List Int} (ha : a.Pairwise (· < ·)) (hb : b.Pairwise (· < ·)) (h : ∀ x, x ∈ a ↔ x ∈ b) : a = b := by
  have p : a.Perm b := (List.perm_ext_iff_of_nodup (nodup_of_lt ha) (nodup_of_lt hb)).mpr h
  exact List.Perm.eq_of_pairwise (le := (· < ·)) (fun x y _ _ h1 h2 => by omega) ha hb p
theorem sortU_is {l ys : List Int} (h : ys.Pairwise (· < ·)) (m : ∀ x, x ∈ ys ↔ x ∈ l) : ys = sortU l := eq_of_lt h (sortU_pw l) fun x => by rw [m, sortU_mem]
theorem sortU_perm {l ys : List Int} (p : ys.Perm l) (h : ys.Pairwise (· ≤ ·)) (nd : l.Nodup) : ys = sortU l := sortU_is (pw_lt h (p.nodup_iff.mpr nd)) fun x => p.mem_iff
/-! look -/
theorem look_cons {q : Int × Int} {l : NK} {p : Int} : look (q :: l) p = if q.1 = p then q.2 else look l p := by
  unfold look
  by_cases h : q.1 = p <;> simp [List.find?_cons, h]
theorem look_none {l : NK} {p : Int} (h : p ∉ l.map (·.1)) : look l p = 0 := by
  induction l with
  | nil => rfl
  | cons q l ih =>
    rw [List.map_cons, List.mem_cons, not_or] at h
    rw [look_cons, if_neg (fun e => h.1 e.symm), ih h.2]
theorem look_mem {l : NK} {q : Int × Int} (nd : (l.map (·.1)).Nodup) (h : q ∈ l) : look l q.1 = q.2 := by
  induction l with
  | nil => cases h
  | cons r l ih =>
    rw [List.map_cons, List.nodup_cons] at nd
    rw [look_cons]
    rcases List.mem_cons.mp h with rfl | h
    · rw [if_pos rfl]
    · rw [if_neg (fun e => nd.1 (by rw [e]; exact List.mem_map_of_mem h)), ih nd.2 h]
theorem Canon.nodup {l : NK} (c : Canon l) : (l.map (·.1)).Nodup := nodup_of_lt c.asc
theorem Canon.look_pos {l : NK} (c : Canon l) {p : Int} : 0 < look l p ↔ p ∈ l.map (·.1) := by
  constructor
  · intro h
    by_cases m : p ∈ l.map (·.1)
    · exact m
    · rw [look_none m] at h; omega
  · intro h
    obtain ⟨q, hq, rfl⟩ := List.mem_map.mp h
    rw [look_mem c.nodup hq]
    exact c.pos q hq
theorem Canon.nonneg {l : NK} (c : Canon l) (p : Int) : 0 ≤ look l p := by
  by_cases m : p ∈ l.map (·.1)
  · exact Int.le_of_lt (c.look_pos.mpr m)
  · rw [look_none m]; exact Int.le_refl 0
theorem canon_map {l : NK} (c : Canon l) : l = (l.map (·.1)).map fun p => (p, look l p) := by
  rw [List.map_map]
  conv => lhs; rw [← List.map_id l]
  refine List.map_congr_left fun q hq => ?_
  show q = (q.1, look l q.1)
  rw [look_mem c.nodup hq]
theorem canon_ext {a b : NK} (ca : Canon a) (cb : Canon b) (h : ∀ p, look a p = look b p) : a = b := by
  have e : a.map (·.1) = b.map (·.1) := eq_of_lt ca.asc cb.asc fun p => by rw [← ca.look_pos, ← cb.look_pos, h]
  rw [canon_map ca, canon_map cb, e]
  exact List.map_congr_left fun p _ => by rw [h]
/-! what number_of makes of a dict -/
def normK (l : NK) : NK := (sortU (l.map (·.1))).filterMap fun p => if 0 < look l p then some (p, look l p) else none
theorem normK_keys {l : NK} : (normK l).map (·.1) = (sortU (l.map (·.1))).filter fun p => decide (0 < look l p) := by
  unfold normK
  induction sortU (l.map (·.1)) with
  | nil => rfl
  | cons p r ih =>
    by_cases h : 0 < look l p
    · rw [List.filterMap_cons_some (by rw [if_pos h]), List.map_cons, ih, List.filter_cons_of_pos (by simpa using h)]
    · rw [List.filterMap_cons_none (by rw [if_neg h]), ih, List.filter_cons_of_neg (by simpa using h)]
theorem normK_canon (l : NK) : Canon (normK l) := by
  refine ⟨?_, ?_⟩
  · rw [normK_keys]
    exact (sortU_pw _).filter _
  · intro q hq
    unfold normK at hq
    obtain ⟨p, _, e⟩ := List.mem_filterMap.mp hq
    split at e
    · cases e; assumption
    · cases e
theorem normK_look {l : NK} (h : ∀ p, 0 ≤ look l p) (p : Int) : look (normK l) p = look l p := by
  by_cases m : p ∈ (normK l).map (·.1)
  · obtain ⟨q, hq, rfl⟩ := List.mem_map.mp m
    rw [look_mem (normK_canon l).nodup hq]
    unfold normK at hq
    obtain ⟨p, _, e⟩ := List.mem_filterMap.mp hq
    split at e
    · cases e; rfl
    · cases e
  · rw [look_none m]
    rw [normK_keys, List.mem_filter, sortU_mem] at m
    by_cases k : p ∈ l.map (·.1)
    · have := h p
      simp only [k, true_and, decide_eq_true_eq] at m
      omega
    · rw [look_none k]
theorem normK_sub {l : NK} {q : Int × Int} (h : q ∈ normK l) : q.1 ∈ l.map (·.1) := by
  have : q.1 ∈ (normK l).map (·.1) := List.mem_map_of_mem h
  rw [normK_keys, List.mem_filter, sortU_mem] at this
  exact this.1
theorem look_mapf {ks : List Int} {f : Int → Int} {p : Int} : look (ks.map fun p => (p, f p)) p = if p ∈ ks then f p else 0 := by
  induction ks with
  | nil => rfl
  | cons k ks ih =>
    rw [List.map_cons, look_cons, ih]
    by_cases h : k = p
    · subst h; simp
    · have : ¬ p = k := fun e => h e.symm
      simp [h, this]
/-- what a table over the primes of two numbers makes -/
def joinK (a b : NK) : List Int := sortU (a.map (·.1) ++ b.map (·.1))
def opK (f : Int → Int → Int) (a b : NK) : NK := normK ((joinK a b).map fun p => (p, f (look a p) (look b p)))
theorem opK_canon (f : Int → Int → Int) (a b : NK) : Canon (opK f a b) := normK_canon _
theorem opK_look {f : Int → Int → Int} {a b : NK} (h0 : f 0 0 = 0) (hf : ∀ p, 0 ≤ f (look a p) (look b p)) (p : Int) : look (opK f a b) p = f (look a p) (look b p) := by
  unfold opK
  rw [normK_look]
  · rw [look_mapf]
    by_cases m : p ∈ joinK a b
    · rw [if_pos m]
    · rw [if_neg m]
      unfold joinK at m
      rw [sortU_mem, List.mem_append, not_or] at m
      rw [look_none m.1, look_none m.2, h0]
  · intro p
    rw [look_mapf]
    split
    · exact hf p
    · exact Int.le_refl 0
theorem map_map1 {a : NK} {f : Int × Int → Int} : a.map (fun q => (q.1, f q)) = (a.map fun q => (q.1, f q)) := rfl
def overK (a b : NK) : NK := normK (a.map fun q => (q.1, q.2 - look b q.1))
def raisedK (a : NK) (t : Int) : NK := normK (a.map fun q => (q.1, q.2 * t))
theorem look_mapq {a : NK} (nd : (a.map (·.1)).Nodup) {f : Int → Int → Int} {p : Int} (h0 : p ∉ a.map (·.1) → f p 0 = 0) : look (a.map fun q => (q.1, f q.1 q.2)) p = f p (look a p) := by
  induction a with
  | nil => exact (h0 (by simp)).symm
  | cons q a ih =>
    rw [List.map_cons, List.nodup_cons] at nd
    rw [List.map_cons, look_cons, look_cons]
    by_cases h : q.1 = p
    · rw [if_pos h, if_pos h, h]
    · rw [if_neg h, if_neg h]
      refine ih nd.2 fun m => h0 ?_
      rw [List.map_cons, List.mem_cons, not_or]
      exact ⟨fun e => h e.symm, m⟩
theorem overK_look {a b : NK} (ca : Canon a) (hb : ∀ p, look b p ≤ look a p) (cb : Canon b) (p : Int) : look (overK a b) p = look a p - look b p := by
  have e : ∀ p, look (a.map fun q => (q.1, q.2 - look b q.1)) p = look a p - look b p := fun p =>
    look_mapq (f := fun p e => e - look b p) ca.nodup (fun m => by
      have := hb p
      rw [look_none m] at this
      have := cb.nonneg p
      show (0 : Int) - look b p = 0
      omega)
  unfold overK
  rw [normK_look (fun p => by rw [e]; have := hb p; omega), e]
theorem raisedK_look {a : NK} (ca : Canon a) {t : Int} (ht : 0 ≤ t) (p : Int) : look (raisedK a t) p = look a p * t := by
  have e : ∀ p, look (a.map fun q => (q.1, q.2 * t)) p = look a p * t := fun p => look_mapq (f := fun _ e => e * t) ca.nodup (fun _ => Int.zero_mul t)
  unfold raisedK
  rw [normK_look (fun p => by rw [e]; exact Int.mul_nonneg (ca.nonneg p) ht), e]
end NM

set_option Elab.async false
set_option linter.all false
set_option maxRecDepth 100000
set_option maxHeartbeats 4000000
/-! RLnum: numbers as values -/
namespace RL
open PySem PySem.Spec PyProof.Rows L2 NM
section
variable {X : Cx} {Γ : Ctx} {e o a b c d : Expr} {es : List Expr} {T U : Ty} {Ts Us : List Ty} {pos p p2 pos2 apos : Pos} {x m : Str}
/-- {k: v for ..}, frozen at once -/
theorem g_dc {kx vx tg iter : Expr} {ifs : List Expr} {scope : Scope} {own : List (Str × Nat)} {g : TG} (rs : List (Option (Key × V))) (hi : GI X Γ tg iter Ts) (ok : BlkOk X.N X.env.scope scope own)
    (hg : ∀ (s : Shared) (H : Hp) (C : Addr) (cl : List (Str × Addr)) (fp : List Addr), PG (X.blk s H scope (compEnvC scope cl C X.env) fp) tg g)
    (hl : rs.length = Ts.length) (hz : Ts.length ≤ sizeLine)
    (hw : ∀ (i : Nat) (T : Ty), Ts[i]? = some T → ∃ Δ2, Tgt g T ((own.map (·.2)).foldr (fun v G => G.set v none) Γ) Δ2 ∧
      ((rs[i]? = some none ∧ GCTs X scope Δ2 ifs false) ∨ ∃ k v, rs[i]? = some (some (k, v)) ∧ GCTs X scope Δ2 ifs true ∧ GC X scope Δ2 kx (valT (kV k)) ∧ GC X scope Δ2 vx (valT v)))
    (hwipe : OwnTgt g own) (hnd : ((rs.filterMap id).map (·.1)).Nodup) {T' : Ty} (hR : dicT (rs.filterMap id) = T')
    (hc : X.calm = true := by rfl) (hN : X.N.Nodup := by first | assumption | decide) (hf : ∀ x, foldedSetIterable iter X.env x = pure x := by intro _; rfl) : G X Γ (.DictComp kx vx [⟨tg, iter, ifs, 0⟩] scope pos) T' := hR ▸ fun σ H t Q q =>
  tE_frz (g_dcU rs hi ok hg hl hz hw hwipe hnd hc hN hf t fun D H' e hD hd => ⟨D, _, hd, trivial, fun od => q _ _ (e.mut hD) ⟨D, od, rfl, upd_same⟩⟩)
/-- what is always kept -/
theorem kept_all {α : Type} {β : Type u} (ks : List α) (g : α → β) : (ks.map fun p => some (g p)).filterMap id = ks.map g := by
  induction ks with
  | nil => rfl
  | cons p r ih =>
    rw [List.map_cons, List.map_cons, ← ih]
    rfl
/-- [e for x in it] -/
theorem g_lcM {α : Type} {x : Str} {i : Nat} {elt iter : Expr} {scope : Scope} {px : Pos} (ks : List α) (A R : α → Ty) [hSt : ∀ a, Stb (R a)] (hi : GI X Γ (.Name x px) iter (ks.map A)) (hz : ks.length ≤ sizeLine)
    (hv : ∀ p ∈ ks, GC X scope ((Γ.set i none).set i (some (A p))) elt (R p)) (ok : BlkOk X.N X.env.scope scope [(x, i)] := by first | exact blkOk_by rfl | exact blkOk_by (by decide +kernel))
    (hg : ∀ (s : Shared) (H : Hp) (C : Addr) (cl : List (Str × Addr)) (fp : List Addr), PG (X.blk s H scope (compEnvC scope cl C X.env) fp) (.Name x px) (gName i) := by exact fun _ _ _ _ _ => pg_name (by assumption) rfl (Or.inl rfl))
    {T' : Ty} (hR : lstT (ks.map R) = T' := by rfl) (hc : X.calm = true := by rfl) (hN : X.N.Nodup := by first | assumption | decide) (hf : ∀ x, foldedSetIterable iter X.env x = pure x := by intro _; rfl) : G X Γ (.ListComp elt [⟨.Name x px, iter, [], 0⟩] scope pos) T' := by
  subst hR
  refine g_lc (ks.map fun p => some (R p)) hi ok hg (by rw [List.length_map, List.length_map]) (by rw [List.length_map]; exact hz) (fun j T hT => ?_) (fun U hU => by obtain ⟨a, _, e⟩ := List.mem_map.mp hU; cases e; exact hSt a) own_name (by unfold keptT; rw [kept_all]) hc hN hf
  rw [List.getElem?_map] at hT
  cases hp : ks[j]? with
  | none => rw [hp] at hT; cases hT
  | some p =>
    rw [hp] at hT
    cases hT
    exact ⟨_, tgt_name, .inr ⟨R p, by rw [List.getElem?_map, hp]; rfl, gct_nil, hv p (List.mem_of_getElem? hp)⟩⟩
/-- {k: v for x in it}, of different keys -/
theorem g_dcM {α : Type} {x : Str} {i : Nat} {kx vx iter : Expr} {scope : Scope} {px : Pos} (ks : List α) (A : α → Ty) (kf : α → Key) (vf : α → V) (hi : GI X Γ (.Name x px) iter (ks.map A)) (hz : ks.length ≤ sizeLine) (hnd : (ks.map kf).Nodup)
    (hk : ∀ p ∈ ks, GC X scope ((Γ.set i none).set i (some (A p))) kx (valT (kV (kf p)))) (hv : ∀ p ∈ ks, GC X scope ((Γ.set i none).set i (some (A p))) vx (valT (vf p)))
    {T' : Ty} (hR : dicT (ks.map fun p => (kf p, vf p)) = T') (ok : BlkOk X.N X.env.scope scope [(x, i)] := by first | exact blkOk_by rfl | exact blkOk_by (by decide +kernel))
    (hg : ∀ (s : Shared) (H : Hp) (C : Addr) (cl : List (Str × Addr)) (fp : List Addr), PG (X.blk s H scope (compEnvC scope cl C X.env) fp) (.Name x px) (gName i) := by exact fun _ _ _ _ _ => pg_name (by assumption) rfl (Or.inl rfl))
    (hc : X.calm = true := by rfl) (hN : X.N.Nodup := by first | assumption | decide) (hf : ∀ x, foldedSetIterable iter X.env x = pure x := by intro _; rfl) : G X Γ (.DictComp kx vx [⟨.Name x px, iter, [], 0⟩] scope pos) T' := by
  subst hR
  refine g_dc (ks.map fun p => some (kf p, vf p)) hi ok hg (by rw [List.length_map, List.length_map]) (by rw [List.length_map]; exact hz) (fun j T hT => ?_) own_name ?_ (by rw [kept_all]) hc hN hf
  · rw [List.getElem?_map] at hT
    cases hp : ks[j]? with
    | none => rw [hp] at hT; cases hT
    | some p =>
      rw [hp] at hT
      cases hT
      exact ⟨_, tgt_name, .inr ⟨kf p, vf p, by rw [List.getElem?_map, hp]; rfl, gct_nil, hk p (List.mem_of_getElem? hp), hv p (List.mem_of_getElem? hp)⟩⟩
  · rw [kept_all, List.map_map]
    exact hnd
/-- min, max of two ints -/
theorem g_min2 {i j : Int} (ha : G X Γ a (intT i)) (hb : G X Γ b (intT j)) (hm : X.mg "min" = none) (hc : X.calm = true := by rfl) (hg : Gl X "min" := by rfl) (he : starEach [a, b] X.env = (false, eval a X.env) :: starEach [b] X.env := by first | exact se_cons rfl | exact se_one rfl | exact se_two rfl rfl | rfl) (he2 : starEach [b] X.env = (false, eval b X.env) :: starEach [] X.env := by first | exact se_cons rfl | exact se_one rfl | exact se_two rfl rfl | rfl) (hpl : (backTo pos (starEach [b] X.env)).any (·.1) = false := by first | exact se_any rfl | rfl) :
    G X Γ (.Call (.Name "min" p) [a, b] [] pos) (intT (if j < i then j else i)) :=
  g_callB (call_min2 hc) hm (by decide +kernel) (ga_cons ha (ga_cons hb ga_nil he2) he) (fun vs H h Q q => ⟨i, j, vals2 h, q _ _ (Ex.refl H) rfl⟩) hg (by decide) (by decide) he hpl
theorem g_max2 {i j : Int} (ha : G X Γ a (intT i)) (hb : G X Γ b (intT j)) (hm : X.mg "max" = none) (hc : X.calm = true := by rfl) (hg : Gl X "max" := by rfl) (he : starEach [a, b] X.env = (false, eval a X.env) :: starEach [b] X.env := by first | exact se_cons rfl | exact se_one rfl | exact se_two rfl rfl | rfl) (he2 : starEach [b] X.env = (false, eval b X.env) :: starEach [] X.env := by first | exact se_cons rfl | exact se_one rfl | exact se_two rfl rfl | rfl) (hpl : (backTo pos (starEach [b] X.env)).any (·.1) = false := by first | exact se_any rfl | rfl) :
    G X Γ (.Call (.Name "max" p) [a, b] [] pos) (intT (if j > i then j else i)) :=
  g_callB (call_max2 hc) hm (by decide +kernel) (ga_cons ha (ga_cons hb ga_nil he2) he) (fun vs H h Q q => ⟨i, j, vals2 h, q _ _ (Ex.refl H) rfl⟩) hg (by decide) (by decide) he hpl
/-- set(l) of a frozen list of ints -/
theorem cr_setL (hc : X.calm = true) : CallR X (.type "set") (fun vs H Q => ∃ (l : Addr) (ns : List Int), vs = [V.ref l] ∧ FrzL H l (ns.map V.int) ∧ ns.length ≤ 1000 ∧ ∀ (q : Addr) (n : Nat), n ≤ ns.length → H q = none → Q (.ref q) (upd H q (SetO X.w q (fun j => decide (j ∈ ns)) n))) := by
  intro pins s σ H vs us Q I r h
  obtain ⟨l, ns, ev, ⟨o, hf⟩, hn, q⟩ := h
  subst ev
  match us, r with
  | [u], .cons ru .nil =>
    obtain rfl : u = Value.ref l := ru
    obtain ⟨_, z, its, c, hv, hl⟩ := I.hok l _ hf
    refine set_of_list (items := its.toArray) ns (I.ok.hd hc) ⟨_, hl, rfl, c, rfl⟩ (ints_of_vals hv) (by unfold scanBound; omega) fun h' tk n hR hle k => ?_
    exact ⟨.ref s.heap.objs.size, _, I.laid k (Nat.le_refl _) (setO_new hR), rfl, q _ n hle (I.hok.fresh (Nat.le_refl _))⟩
/-- sorted(set(l)) -/
theorem g_sortedSet {ns : List Int} (h : G X Γ e (lstT (ns.map fun z => intT z))) (hm : X.mg "sorted" = none) (hm2 : X.mg "set" = none) (h64 : ns.length < 64) (hc : X.calm = true := by rfl) (hg : Gl X "sorted" := by rfl) (hg2 : Gl X "set" := by rfl)
    (he : starEach [e] X.env = (false, eval e X.env) :: starEach [] X.env := by first | exact se_cons rfl | exact se_one rfl | exact se_two rfl rfl | rfl) : G X Γ (.Call (.Name "sorted" p) [.Call (.Name "set" p2) [e] [] pos2] [] pos) (lstT ((sortU ns).map fun z => intT z)) := fun σ H t Q q =>
  tE_frz (toE (pe_callB (cr_sortedSet hc) hg hm (by decide +kernel) (pa_cons (pe_callTy (cr_setL hc) hg2 hm2 (by decide +kernel) (pa_cons (pe e) pa_nil he) (he := he)) pa_nil)) (h σ H t _ fun v H1 e1 ⟨l, vs, ev, hf, h2⟩ => by
    subst ev
    have hv : vs = ns.map V.int := All2.vals (H := H1) (by rw [List.map_map]; exact h2)
    subst hv
    refine ⟨l, ns, rfl, hf, by omega, fun s n hn hs => ⟨s, _, n, rfl, upd_same, by omega, fun out d hd hmem hlen hfree => ?_⟩⟩
    have hout : out = sortU ns := sortU_is hd fun x => by rw [hmem x, decide_eq_true_eq]
    subst hout
    refine ⟨d, _, upd_same, trivial, fun od => ?_⟩
    rw [upd_upd]
    have hsd : H1 d = none := by
      by_cases c : d = s
      · subst c; exact hs
      · rw [upd_ne c] at hfree; exact hfree
    refine q _ _ ?_ ⟨d, _, rfl, ⟨od, upd_same⟩, ?_⟩
    · exact (e1.trans (Ex.new hs)).trans (Ex.new hfree)
    · have z := All2.of_vals (H := upd (upd H1 s (SetO X.w s (fun j => decide (j ∈ ns)) n)) d (.frz od (.lst ((sortU ns).map V.int)))) (ws := (sortU ns).map V.int)
      rwa [List.map_map] at z))
end
/-! ### numbers -/
def numCs : List Str := ["Number", "MadeNumber"]
def kvN (l : NK) : List (Key × V) := l.map fun q => (Sum.inl q.1, V.int q.2)
theorem kvN_keys (l : NK) : (kvN l).map (·.1) = (l.map (·.1)).map Sum.inl := by simp [kvN]
theorem kvN_val (l : NK) (p : Int) : (valV (kvN l) (Sum.inl p : Key)).getD (.int 0) = .int (look l p) := by
  induction l with
  | nil => rfl
  | cons q l ih =>
    unfold valV kvN at *
    rw [List.map_cons, List.find?_cons, look_cons]
    by_cases h : q.1 = p
    · subst h; simp
    · have h' : ¬ (Sum.inl q.1 : Key) = Sum.inl p := fun z => h (Sum.inl.inj z)
      simp only [h, h', decide_false, if_false]
      exact ih
theorem kvN_val' {l : NK} {p : Int} (h : p ∈ l.map (·.1)) : valV (kvN l) (Sum.inl p : Key) = some (.int (look l p)) := by
  have z := kvN_val l p
  cases e : valV (kvN l) (Sum.inl p : Key) with
  | some v => rw [e] at z; exact congrArg some z
  | none =>
    exfalso
    obtain ⟨q, hq, rfl⟩ := List.mem_map.mp h
    unfold valV kvN at e
    rw [Option.map_eq_none_iff, List.find?_eq_none] at e
    exact e (Sum.inl q.1, V.int q.2) (List.mem_map_of_mem (f := fun q : Int × Int => ((Sum.inl q.1, V.int q.2) : Key × V)) hq) (by simp)
/-- the number of these pairs -/
def numT (K : PySem.W.Frag) (k : NK) : Ty := ⟨fun v H => ∃ a C dx p o, v = .ref a ∧ H a = some (.ins C dx [("powers", .ref p)]) ∧ NamesC K numCs C ∧ H p = some (.frz o (.dK (kvN k))),
  fun {v H H'} e ⟨a, C, dx, p, o, h1, h2, h3, h4⟩ => ⟨a, C, dx, p, o, h1, e a _ h2, h3, e p _ h4⟩⟩
instance (K : PySem.W.Frag) (k : NK) : Stb (numT K k) := ⟨fun e ⟨a, C, dx, p, o, h1, h2, h3, h4⟩ => ⟨a, C, dx, p, o, h1, e a _ (fun z => z) h2, h3, e p _ (fun z => z) h4⟩⟩
theorem num_any {K : PySem.W.Frag} {k : NK} {v : V} {H : Hp} (h : numT K k v H) : InsAny (NamesC K numCs) v H := by
  obtain ⟨a, C, dx, p, o, h1, h2, h3, _⟩ := h
  exact ⟨a, C, dx, _, h1, h2, h3⟩
theorem num_of {K : PySem.W.Frag} {k : NK} {m : Str} (hm : List.lookup m [(("powers" : Str), V.ref 0)] = none) {v : V} {H : Hp} (h : numT K k v H) : InsOf (NamesC K numCs) m v H := by
  obtain ⟨a, C, dx, p, o, h1, h2, h3, _⟩ := h
  refine ⟨a, C, dx, _, h1, h2, h3, ?_⟩
  rw [List.lookup_cons] at hm ⊢
  split at hm
  · cases hm
  · rfl
end RL

set_option Elab.async false
set_option linter.all false
set_option maxRecDepth 100000
set_option maxHeartbeats 4000000
/-! RLbag: the laws' bag of choices, hidden in one word -/
namespace RL
open PySem PySem.Spec PyProof.Rows L2
/-- what stands in a bag -/
structure BagS where
  i : Int
  c : Int
  m : Int
def BagS.ok (z : BagS) : Prop := 0 ≤ z.i ∧ 0 ≤ z.c ∧ 0 ≤ z.m ∧ z.m < 2 ^ 40
def bagL (row : Addr) (z : BagS) : HO := .lst [.ref row, .int z.i, .int z.c, .int z.m]
/-- a bag at b, its row at row, its state hidden -/
def bagH (b row : Addr) : HO := .ext fun h => ∃ z : BagS, z.ok ∧ ∃ (t1 t2 t3 : Tok) (n : Nat), h.get? b = some { cls := .type "list", data := .seq #[.ref row, .int z.i t1, .int z.c t2, .int z.m t3] n }
def bagT : Ty := ⟨fun v H => ∃ (b row : Addr) (cells : List Int), v = .ref b ∧ H b = some (bagH b row) ∧ FrzL H row (cells.map V.int), fun e ⟨b, row, cells, h1, h2, h3⟩ => ⟨b, row, cells, h1, e _ _ h2, h3.up e⟩⟩
instance : Stb bagT := ⟨fun e ⟨b, row, cells, h1, h2, h3⟩ => ⟨b, row, cells, h1, e _ _ (fun z => z) h2, h3.le e⟩⟩
theorem bag_close {b row : Addr} {z : BagS} (h : z.ok) : ∀ (P : Program) (w : World) (H H' : Hp) (hp : Heap), ObjOk P w H hp b (bagL row z) → ObjOk P w H' hp b (bagH b row) := fun P w H H' hp ⟨_, its, n, r, e⟩ => by
  cases r with
  | cons r0 r =>
  cases r with
  | cons r1 r =>
  cases r with
  | cons r2 r =>
  cases r with
  | cons r3 r =>
  cases r
  cases r0
  obtain ⟨t1, rfl⟩ := r1
  obtain ⟨t2, rfl⟩ := r2
  obtain ⟨t3, rfl⟩ := r3
  exact ⟨⟨z, h, t1, t2, t3, n, e⟩, ⟨_, e⟩, fun h1 h2 ⟨z', k, u1, u2, u3, n', e'⟩ s => ⟨z', k, u1, u2, u3, n', s _ e'⟩⟩
theorem bag_open {b row : Addr} : ∀ (P : Program) (w : World) (hp : Heap), (∃ z : BagS, z.ok ∧ ∃ (t1 t2 t3 : Tok) (n : Nat), hp.get? b = some { cls := .type "list", data := .seq #[.ref row, .int z.i t1, .int z.c t2, .int z.m t3] n }) → ∃ z : { z : BagS // z.ok }, ∀ H', ObjOk P w H' hp b (bagL row z.1) := fun P w hp ⟨z, h, t1, t2, t3, n, e⟩ =>
  ⟨⟨z, h⟩, fun H' => ⟨(by decide : 4 ≤ sizeLine), [.ref row, .int z.i t1, .int z.c t2, .int z.m t3], n, .cons rfl (.cons ⟨_, rfl⟩ (.cons ⟨_, rfl⟩ (.cons ⟨_, rfl⟩ .nil))), e⟩⟩
/-- the row of an opened bag -/
def rowT (row : Addr) (cells : List Int) : Ty := ⟨fun v H => v = .ref row ∧ FrzL H row (cells.map V.int), fun e ⟨h1, h2⟩ => ⟨h1, h2.up e⟩⟩
instance (row : Addr) (cells : List Int) : Stb (rowT row cells) := ⟨fun e ⟨h1, h2⟩ => ⟨h1, h2.le e⟩⟩
theorem row_lst {row : Addr} {cells : List Int} {v : V} {H : Hp} (h : rowT row cells v H) : lstT (cells.map fun z => intT z) v H := by
  obtain ⟨h1, h2⟩ := h
  refine ⟨row, _, h1, h2, ?_⟩
  have z := All2.of_vals (H := H) (ws := cells.map V.int)
  rwa [List.map_map] at z
abbrev bagTs (row : Addr) (cells : List Int) (z : BagS) : List Ty := [rowT row cells, intT z.i, intT z.c, intT z.m]
def hide (b : Addr) (H : Hp) : Hp := fun a => if a = b then none else H a
theorem hide_none {b : Addr} {H : Hp} : hide b H b = none := by simp [hide]
theorem hide_ex {b : Addr} {H : Hp} {o : HO} : Ex (hide b H) (upd H b o) := fun a u h => by
  unfold hide at h
  split at h
  · cases h
  · rename_i ne
    rw [upd_ne ne]; exact h
/-- the bag is closed again -/
theorem unhide {b row : Addr} {H H' : Hp} (e : Ex (hide b H) H') (hb : H b = some (bagH b row)) : Ex H (upd H' b (bagH b row)) := fun a u h => by
  by_cases c : a = b
  · subst c
    rw [hb] at h; cases h
    exact upd_same
  · rw [upd_ne c]
    exact e a u (by unfold hide; rw [if_neg c]; exact h)
section
variable {X : Cx} {Γ : Ctx} {e : Expr} {T : Ty} {H0 : Bs} {D : Ends} {rest : List Stmt} {pos : Pos}
theorem g_pow {a b : Expr} {i j : Int} (ha : G X Γ a (intT i)) (hb : G X Γ b (intT j)) (h : CPow i j) : G X Γ (.BinOp a .Pow b pos) (intT (i ^ j.toNat)) := g_op op_pow ha hb (r_I (g := fun i j => V.int (i ^ j.toNat)) (C := CPow) h)
theorem g_intI {i : Int} {p : Pos} (h : G X Γ e (intT i)) (hm : X.mg "int" = none) (hg : Gl X "int" := by rfl) (he : starEach [e] X.env = (false, eval e X.env) :: starEach [] X.env := by first | exact se_cons rfl | exact se_one rfl | exact se_two rfl rfl | rfl) : G X Γ (.Call (.Name "int" p) [e] [] pos) (intT i) :=
  g_callTy call_int1 hm (by decide +kernel) (ga_cons h ga_nil he) (fun vs H h2 Q q => .inl ⟨i, vals1' h2, q _ H (Ex.refl H) rfl⟩) hg (he := he)
/-- return e, a thing told anew behind it -/
theorem b_retR (he : G X Γ e T) (h : ∀ σ v H', H0.ok H' → Typed σ Γ H' → T v H' → ∃ d u u', H' d = some u ∧ Retr d u u' ∧ D.rt v (upd H' d u')) : Bd X Γ (.Return (some e) pos :: rest) H0 D := b_cons fun σ H e0 t => toS (ps_ret (pe e)) (tE_retr (he σ H t _ fun v H1 e1 h1 => h σ v H1 (e0.trans e1) (t.up e1) h1))
end
end RL

set_option Elab.async false
set_option linter.all false
set_option maxRecDepth 100000
set_option maxHeartbeats 4000000
/-! RLx: values of which only a property is known; tests with several answers -/
namespace RL
open PySem PySem.Spec PyProof.Rows L2
/-- an int with this property -/
abbrev inT (p : Int → Prop) : Ty := exT fun i : { i : Int // p i } => intT i.1
/-- one of these -/
abbrev oneT (Ts : List Ty) : Ty := exT fun i : Fin Ts.length => Ts[i.1]
section
variable {X : Cx} {Γ : Ctx} {e o a b c d : Expr} {es : List Expr} {T U : Ty} {Ts Us : List Ty} {pos pos2 : Pos} {x : Str} {p q r : Int → Prop}
theorem G.ofI {i : Int} (h : G X Γ e (intT i)) (hp : p i) : G X Γ e (inT p) := h.imp fun v H k => ⟨⟨i, hp⟩, k⟩
theorem G.inI (h : G X Γ e (inT p)) (k : ∀ i, p i → q i) : G X Γ e (inT q) := h.imp fun v H ⟨i, hv⟩ => ⟨⟨i.1, k _ i.2⟩, hv⟩
theorem G.ex {α : Sort u} {F : α → Ty} (z : α) (h : G X Γ e (F z)) : G X Γ e (exT F) := h.imp fun v H k => ⟨z, k⟩
theorem r_exI {g : Int → Int → Int} {C : Int → Int → Prop} (hc : ∀ i j, p i → q j → C i j ∧ r (g i j)) : ∀ x y H, inT p x H → inT q y H → ∀ Q : VK, (∀ v H', Ex H H' → inT r v H' → Q v H') → rI C (fun i j => V.int (g i j)) x y H Q := fun x y H ⟨i, hx⟩ ⟨j, hy⟩ Q k =>
  ⟨i.1, j.1, hx, hy, (hc _ _ i.2 j.2).1, k _ H (Ex.refl H) ⟨⟨_, (hc _ _ i.2 j.2).2⟩, rfl⟩⟩
theorem r_exI0 {g : Int → Int → Int} (hc : ∀ i j, p i → q j → r (g i j)) : ∀ x y H, inT p x H → inT q y H → ∀ Q : VK, (∀ v H', Ex H H' → inT r v H' → Q v H') → rI0 (fun i j => V.int (g i j)) x y H Q := fun x y H ⟨i, hx⟩ ⟨j, hy⟩ Q k =>
  ⟨i.1, j.1, hx, hy, k _ H (Ex.refl H) ⟨⟨_, hc _ _ i.2 j.2⟩, rfl⟩⟩
theorem gx_add (ha : G X Γ a (inT p)) (hb : G X Γ b (inT q)) (hc : ∀ i j, p i → q j → r (i + j)) : G X Γ (.BinOp a .Add b pos) (inT r) := g_op op_add ha hb (r_exI0 (g := fun i j => i + j) hc)
theorem gx_sub (ha : G X Γ a (inT p)) (hb : G X Γ b (inT q)) (hc : ∀ i j, p i → q j → r (i - j)) : G X Γ (.BinOp a .Sub b pos) (inT r) := g_op op_sub ha hb (r_exI0 (g := fun i j => i - j) hc)
theorem gx_mod (ha : G X Γ a (inT p)) (hb : G X Γ b (inT q)) (hc : ∀ i j, p i → q j → 0 < j ∧ r (i % j)) : G X Γ (.BinOp a .Mod b pos) (inT r) := g_op op_mod ha hb (r_exI (g := fun i j => i % j) (C := fun _ j => 0 < j) hc)
theorem gx_mul {n k : Nat} (ha : G X Γ a (inT p)) (hb : G X Γ b (inT q)) (hc : ∀ i j, p i → q j → (i.natAbs < 2 ^ n ∧ j.natAbs < 2 ^ k) ∧ r (i * j)) (hn : 0 < n := by decide) (hk : 0 < k := by decide) (h : n + k ≤ 1000000 := by decide) : G X Γ (.BinOp a .Mult b pos) (inT r) :=
  g_op op_mulW ha hb (r_exI (g := fun i j => i * j) fun i j hi hj => ⟨wide_mul (hc i j hi hj).1.1 (hc i j hi hj).1.2 hn hk h, (hc i j hi hj).2⟩)
theorem all2_2 {T0 T1 : Ty} {vs : List V} {H : Hp} (h : All2 [T0, T1] vs H) : ∃ v0 v1, vs = [v0, v1] ∧ T0 v0 H ∧ T1 v1 H := by
  match vs, h with
  | [a, b], ⟨h0, h1, _⟩ => exact ⟨a, b, rfl, h0, h1⟩
theorem all2_3 {T0 T1 T2 : Ty} {vs : List V} {H : Hp} (h : All2 [T0, T1, T2] vs H) : ∃ v0 v1 v2, vs = [v0, v1, v2] ∧ T0 v0 H ∧ T1 v1 H ∧ T2 v2 H := by
  match vs, h with
  | [a, b, c], ⟨h0, h1, h2, _⟩ => exact ⟨a, b, c, rfl, h0, h1, h2⟩
theorem all2_4 {T0 T1 T2 T3 : Ty} {vs : List V} {H : Hp} (h : All2 [T0, T1, T2, T3] vs H) : ∃ v0 v1 v2 v3, vs = [v0, v1, v2, v3] ∧ T0 v0 H ∧ T1 v1 H ∧ T2 v2 H ∧ T3 v3 H := by
  match vs, h with
  | [a, b, c, d], ⟨h0, h1, h2, h3, _⟩ => exact ⟨a, b, c, d, rfl, h0, h1, h2, h3⟩
/-! tests -/
/-- e asked for its truth says one of p -/
def GP (X : Cx) (Γ : Ctx) (e : Expr) (p : Bool → Prop) : Prop := ∀ σ H, Typed σ Γ H → ∀ Q : Bool → Hp → Prop, (∀ b H', Ex H H' → p b → Q b H') → tT X e σ H Q
theorem GT.gp {k : Bool} (h : GT X Γ e k) : GP X Γ e (· = k) := fun σ H t Q q => h σ H t _ fun H1 e1 => q k H1 e1 rfl
theorem GP.imp {p q : Bool → Prop} (h : GP X Γ e p) (k : ∀ b, p b → q b) : GP X Γ e q := fun σ H t Q w => h σ H t Q fun b H1 e1 hb => w b H1 e1 (k b hb)
theorem GP.any {p : Bool → Prop} (h : GP X Γ e p) : GP X Γ e fun _ => True := h.imp fun _ _ => trivial
theorem gp_bl {p : Bool → Prop} (h : G X Γ e T) (ht : ∀ v H, T v H → ∃ b, v = .bl b ∧ p b) (he : ∀ whole, isTrue e X.env whole = (do let v ← whole; standAt e.pos; holding [v] (truthy v)) := by intro _; rfl) : GP X Γ e p := fun σ H t Q q =>
  toT (pt_val (pe e) he) (h σ H t _ fun v H1 e1 h1 => by
    obtain ⟨b, ev, hb⟩ := ht v H1 h1
    exact ⟨b, ev, q b H1 e1 hb⟩)
theorem gp_not {p : Bool → Prop} (h : GP X Γ e p) : GP X Γ (.UnaryOp .Not e pos) fun b => p (!b) := fun σ H t Q q => toT (pt_not (pt e)) (h σ H t _ fun b H1 e1 hb => q _ H1 e1 (by simpa using hb))
theorem gp_and2 {p q : Bool → Prop} (ha : GP X Γ a p) (hb : p true → GP X Γ b q) : GP X Γ (.BoolOp .And [a, b] pos) fun r => (r = false ∧ p false) ∨ (p true ∧ q r) := fun σ H t Q w => toT (PW.pt (pw_and (pt a) (pw_and1 (pt b)))) (ha σ H t _ fun k H1 e1 hk => by
  cases k with
  | true => exact iteT (hb hk σ H1 (t.up e1) _ fun b H2 e2 hb => w b H2 (e1.trans e2) (.inr ⟨hk, hb⟩))
  | false => exact iteF (w _ H1 e1 (.inl ⟨rfl, hk⟩)))
theorem gp_or2 {p q : Bool → Prop} (ha : GP X Γ a p) (hb : p false → GP X Γ b q) : GP X Γ (.BoolOp .Or [a, b] pos) fun r => (r = true ∧ p true) ∨ (p false ∧ q r) := fun σ H t Q w => toT (PW.pt (pw_or (pt a) (pw_or1 (pt b)))) (ha σ H t _ fun k H1 e1 hk => by
  cases k with
  | true => exact iteT (w _ H1 e1 (.inl ⟨rfl, hk⟩))
  | false => exact iteF (hb hk σ H1 (t.up e1) _ fun b H2 e2 hb => w b H2 (e1.trans e2) (.inr ⟨hk, hb⟩)))
theorem gp_cmp {op : CmpOp} {r : R2} {k : Bool → Prop} (ho : OpR X (compareOp op) r) (ha : G X Γ a T) (hb : G X Γ b U) (hr : ∀ x y H, T x H → U y H → ∀ Q : VK, (∀ b, k b → Q (.bl b) H) → r x y H Q) (hm : behindInMarks op b = false := by rfl) : GP X Γ (.Compare a [op] [b] pos) k := fun σ H t Q q =>
  toT (pt_cmpR ho (pe a) (pe b) hm) (ha σ H t _ fun v H1 e1 h1 => hb σ H1 (t.up e1) _ fun u H2 e2 h2 => hr v u H2 (T.up e2 h1) h2 _ fun b hb => ⟨b, rfl, q b H2 (e1.trans e2) hb⟩)
theorem r_exB {g : Int → Int → Bool} {k : Bool → Prop} (hc : ∀ i j, p i → q j → k (g i j)) : ∀ x y H, inT p x H → inT q y H → ∀ Q : VK, (∀ b, k b → Q (.bl b) H) → rI0 (fun i j => V.bl (g i j)) x y H Q := fun x y H ⟨i, hx⟩ ⟨j, hy⟩ Q w => ⟨i.1, j.1, hx, hy, w _ (hc _ _ i.2 j.2)⟩
theorem gp_lt {k : Bool → Prop} (ha : G X Γ a (inT p)) (hb : G X Γ b (inT q)) (hc : ∀ i j, p i → q j → k (decide (i < j))) : GP X Γ (.Compare a [.Lt] [b] pos) k := gp_cmp op_lt ha hb (r_exB (g := fun i j => decide (i < j)) hc) (nomark _)
theorem gp_gt {k : Bool → Prop} (ha : G X Γ a (inT p)) (hb : G X Γ b (inT q)) (hc : ∀ i j, p i → q j → k (decide (j < i))) : GP X Γ (.Compare a [.Gt] [b] pos) k := gp_cmp op_gt ha hb (r_exB (g := fun i j => decide (j < i)) hc) (nomark _)
theorem gp_eqI {k : Bool → Prop} (ha : G X Γ a (inT p)) (hb : G X Γ b (inT q)) (hc : ∀ i j, p i → q j → k (decide (i = j))) : GP X Γ (.Compare a [.Eq] [b] pos) k := gp_cmp op_eq ha hb (fun x y H ⟨i, hx⟩ ⟨j, hy⟩ Q w => by
  have hx' : x = .int i.1 := hx
  have hy' : y = .int j.1 := hy
  subst hx'; subst hy'
  refine ⟨rfl, w _ ?_⟩
  have := hc _ _ i.2 j.2
  simpa using this) (nomark _)
/-! things[n] -/
theorem ixN_nat {n : Nat} {i : Int} (h0 : 0 ≤ i) (h : i < n) : ixN n i = some i.toNat := by
  unfold ixN
  first
    | simp only [h0, h, if_true]
    | (rw [if_pos ⟨h0, h⟩])
    | (simp [h0, h]; omega)
theorem atI_one {i : Int} (h0 : 0 ≤ i) (h : i < Ts.length) : L2.atI Ts i = some (Ts[i.toNat]'(by omega)) := by
  unfold L2.atI
  rw [ixN_nat h0 h]
  exact List.getElem?_eq_getElem _
theorem g_ixLX (ho : G X Γ o (rlT X.K Ts)) (hk : G X Γ e (inT fun i => 0 ≤ i ∧ i < Ts.length)) (hs : PlainIx e := by exact fun _ _ => rfl) : G X Γ (.Subscript o e pos) (oneT Ts) := fun σ H t Q q =>
  toE (pe_ix ix_list (pe o) (pe e) hs) (ho σ H t _ fun v H1 e1 h1 => hk σ H1 (t.up e1) _ fun w H2 e2 ⟨i, h2⟩ => by
    obtain ⟨l, vs, ev, hl, ha⟩ := (rlT X.K Ts).up e2 h1
    obtain ⟨y, hy, ty⟩ := ha.atI (atI_one i.2.1 i.2.2)
    exact ⟨l, vs, i.1, y, ev, h2, hl, hy, q y H2 (e1.trans e2) ⟨⟨i.1.toNat, by have := i.2; omega⟩, ty⟩⟩)
/-! slices, frozen at once -/
theorem All2.drop {H : Hp} : ∀ {Ts : List Ty} {vs : List V} (n : Nat), All2 Ts vs H → All2 (Ts.drop n) (vs.drop n) H
  | _, _, 0, h => h
  | [], [], _ + 1, _ => trivial
  | _ :: _, _ :: _, n + 1, ⟨_, b⟩ => All2.drop n b
  | [], _ :: _, _, h => h.elim
  | _ :: _, [], _, h => h.elim
theorem All2.take {H : Hp} : ∀ {Ts : List Ty} {vs : List V} (n : Nat), All2 Ts vs H → All2 (Ts.take n) (vs.take n) H
  | _, _, 0, _ => trivial
  | [], [], _ + 1, _ => trivial
  | _ :: _, _ :: _, n + 1, ⟨a, b⟩ => ⟨a, All2.take n b⟩
  | [], _ :: _, _, h => h.elim
  | _ :: _, [], _, h => h.elim
def cutT (Ts : List Ty) (lo hi : Option Int) : List Ty := (Ts.drop (HT.sIx Ts.length 0 lo)).take (HT.sIx Ts.length Ts.length hi - HT.sIx Ts.length 0 lo)
theorem All2.cut {H : Hp} {Ts : List Ty} {vs : List V} {lo hi : Option Int} (h : All2 Ts vs H) : All2 (cutT Ts lo hi) (cutV vs lo hi) H := by
  unfold cutT cutV
  rw [h.len]
  exact (h.drop _).take _
/-- l[:n], n of a family -/
theorem g_cutTo {α : Type} {n : α → Int} (ho : G X Γ o (rlT X.K Ts)) (hk : G X Γ e (exT fun z => intT (n z))) : G X Γ (.Subscript o (.Slice none (some e) none pos2) pos) (exT fun z => lstT (cutT Ts none (some (n z)))) := fun σ H t Q q =>
  tE_frz (toE (pe_slice sl_list (pe o) po_none (po_some (pe e))) (ho σ H t _ fun v H1 e1 h1 => hk σ H1 (t.up e1) _ fun w H2 e2 ⟨z, h2⟩ => by
    obtain ⟨l, vs, ev, hl, ha⟩ := (rlT X.K Ts).up e2 h1
    refine ⟨n z, h2, l, vs, ev, hl, fun d hd => ⟨d, _, upd_same, trivial, fun od => ?_⟩⟩
    rw [upd_upd]
    exact q _ _ ((e1.trans e2).trans (Ex.new hd)) ⟨z, d, _, rfl, ⟨od, upd_same⟩, ha.cut.up (Ex.new hd)⟩))
theorem g_cutFrom {α : Type} {n : α → Int} (ho : G X Γ o (rlT X.K Ts)) (hk : G X Γ e (exT fun z => intT (n z))) : G X Γ (.Subscript o (.Slice (some e) none none pos2) pos) (exT fun z => lstT (cutT Ts (some (n z)) none)) := fun σ H t Q q =>
  tE_frz (toE (pe_slice sl_list (pe o) (po_some (pe e)) po_none) (ho σ H t _ fun v H1 e1 h1 => hk σ H1 (t.up e1) _ fun w H2 e2 ⟨z, h2⟩ => by
    obtain ⟨l, vs, ev, hl, ha⟩ := (rlT X.K Ts).up e2 h1
    refine ⟨n z, h2, l, vs, ev, hl, fun d hd => ⟨d, _, upd_same, trivial, fun od => ?_⟩⟩
    rw [upd_upd]
    exact q _ _ ((e1.trans e2).trans (Ex.new hd)) ⟨z, d, _, rfl, ⟨od, upd_same⟩, ha.cut.up (Ex.new hd)⟩))
theorem cutT_to {n : Int} (h : 0 ≤ n) : cutT Ts none (some n) = Ts.take n.toNat := by
  have e1 : HT.sIx Ts.length 0 none = 0 := rfl
  have e2 : HT.sIx Ts.length Ts.length (some n) = min n.toNat Ts.length := by
    unfold HT.sIx
    first
      | (simp only [h, if_true]; omega)
      | (split <;> omega)
      | (simp; omega)
  unfold cutT
  rw [e1, e2, List.drop_zero, Nat.sub_zero, List.take_eq_take_iff]
  omega
theorem cutT_from {n : Int} (h : 0 ≤ n) : cutT Ts (some n) none = Ts.drop n.toNat := by
  have e1 : HT.sIx Ts.length Ts.length none = Ts.length := rfl
  have e2 : HT.sIx Ts.length 0 (some n) = min n.toNat Ts.length := by
    unfold HT.sIx
    first
      | (simp only [h, if_true]; omega)
      | (split <;> omega)
      | (simp; omega)
  unfold cutT
  rw [e1, e2]
  by_cases c : n.toNat ≤ Ts.length
  · rw [Nat.min_eq_left c, List.take_of_length_le (by rw [List.length_drop]; exact Nat.le_refl _)]
  · rw [Nat.min_eq_right (by omega), List.drop_length, List.drop_of_length_le (by omega), List.take_nil]
/-! statements -/
variable {H0 : Bs} {D : Ends} {st : Stmt} {rest body orelse : List Stmt}
theorem b_ifP {p : Bool → Prop} (hc : GP X Γ c p) (h1 : p true → Bd X Γ body H0 { D with nx := tB X rest D }) (h2 : p false → Bd X Γ orelse H0 { D with nx := tB X rest D }) : Bd X Γ (.If c body orelse pos :: rest) H0 D :=
  b_cons fun σ H e0 t => toS (ps_if (pt c) (pb body) (pb orelse)) (hc σ H t _ fun k H1 e1 hk => by
    cases k with
    | true => exact iteT (h1 hk _ _ (e0.trans e1) (t.up e1))
    | false => exact iteF (h2 hk _ _ (e0.trans e1) (t.up e1)))
/-- no else, nothing done: what follows -/
theorem b_skip (h : Bd X Γ rest H0 D) {D' : Ends} (hD : D'.nx = tB X rest D := by rfl) : Bd X Γ [] H0 D' := b_nil fun σ H e t => by rw [hD]; exact h σ H e t
/-- what a slot holds is taken apart -/
theorem b_openS {α : Sort u} {F : α → Ty} (i : Nat) (hT : Γ[i]? = some (some (exT F))) (h : ∀ z, Bd X (Γ.set i (some (F z))) rest H0 D) : Bd X Γ rest H0 D := fun σ H e t => by
  obtain ⟨v, hv, z, tz⟩ := t.get i hT
  refine h z σ H e ?_
  have hi := (List.getElem?_eq_some_iff.mp hT).1
  exact Typed.put (t.drop i) hi hv tz
/-- for x in .., what is walked of a family -/
def GIX {β : Type} (X : Cx) (Γ : Ctx) (tg iter : Expr) (Ts : β → List Ty) : Prop := ∀ σ H, Typed σ Γ H → ∀ Q : It → Hp → Prop, (∀ z J H1, Ex H H1 → Turns J H1 (Ts z) → Q J H1) → tI X tg iter σ H Q
theorem gix_list {β : Type} {Ts : β → List Ty} [hS : ∀ z, Stbs (Ts z)] {tg it : Expr} (h : G X Γ it (exT fun z => lstT (Ts z))) : GIX X Γ tg it Ts := fun σ H t Q q => toI (pi_list (pe it)) (h σ H t _ fun v H1 e1 ⟨z, a, vs, ev, hl, h2⟩ => by
  subst ev
  have up : ∀ {H'}, Le H1 H' → SqL X.K H' a vs := fun e => (hl.le e).sq
  refine ⟨a, rfl, ⟨vs, hl.sq⟩, q z _ H1 e1 fun i H' e => ⟨fun hi => ?_, fun hi => ⟨vs, up e, by rw [hi, h2.len]; exact Nat.le_refl _⟩⟩⟩
  obtain ⟨v, hv, tv⟩ := ((hS z).le e h2).get (List.getElem?_eq_getElem hi)
  refine ⟨⟨vs, v, up e, hv⟩, fun x H2 hy => ?_⟩
  obtain ⟨eH, hx⟩ := hy
  subst eH
  have hx' := hx vs (up e)
  rw [hv] at hx'; cases hx'
  exact ⟨Ex.refl _, _, List.getElem?_eq_getElem hi, tv⟩)
theorem b_forX {β : Type} {Ts : β → List Ty} {it tg : Expr} {g : TG} (Ok : β → Nat → Ctx → Prop) (hi : GIX X Γ tg it Ts) (hg : PG X tg g) (h0 : ∀ z, Ok z 0 Γ)
    (hs : ∀ z (H1 : Hp) (i : Nat) (T : Ty) (Δ : Ctx), H0.ok H1 → (Ts z)[i]? = some T → Ok z i Δ → ∃ Δ2, Tgt g T Δ Δ2 ∧ Bd X Δ2 body (H0.at H1) (turnD D X rest (H0.at H1) (Ok z (i + 1))))
    (hd : ∀ z Δ, Ok z (Ts z).length Δ → Bd X Δ rest H0 D) (hc : X.calm = true := by rfl) (hp : PassesOwn (model X.prog X.w) X.A X.env X.xe := by exact PassesOwn.never) (hf : ∀ x, foldedSetIterable it X.env x = pure x := by intro _; rfl) : Bd X Γ (.For tg it body [] pos :: rest) H0 D :=
  b_cons fun σ H e0 t => toS (ps_for hp hc pi hg (pb body) hf) (hi σ H t _ fun z J H1 e1 tn => by
    have b1 : H0.ok H1 := Bs.up e0 e1
    refine ⟨fun i m σ H => i ≤ (Ts z).length ∧ m = (Ts z).length - i ∧ ∃ Δ, Ok z i Δ ∧ (H0.at H1).ok H ∧ Typed σ Δ H, ⟨_, Nat.zero_le _, rfl, Γ, h0 z, Bs.here b1, t.up e1⟩, ?_⟩
    rintro i m σ H ⟨hi, rfl, Δ, ok, e2, t2⟩
    obtain ⟨t3, t4⟩ := tn i H e2.2
    by_cases c : i < (Ts z).length
    · obtain ⟨go, yl⟩ := t3 c
      refine .inr ⟨go, fun σ H => ∃ Δ, Ok z (i + 1) Δ ∧ (H0.at H1).ok H ∧ Typed σ Δ H, fun σ' H' h => ⟨(Ts z).length - (i + 1), by omega, by omega, rfl, h⟩, fun x H' hy => ?_⟩
      obtain ⟨e3, T, hT, hx⟩ := yl x H' hy
      obtain ⟨Δ2, tg, bd⟩ := hs z H1 i T Δ b1 hT ok
      exact tg x σ H' _ hx (t2.up e3) fun σ2 t3 => bd σ2 H' (Bs.up e2 e3) t3
    · have hi' : i = (Ts z).length := by omega
      refine .inl ⟨t4 hi', ?_⟩
      rw [hi'] at ok
      exact hd z Δ ok σ H (Bs.back b1 e2) t2)
/-- a, b, c = a list of three -/
theorem tgtl3 {K : PySem.W.Frag} {i j l : Nat} {Δ : Ctx} {T1 T2 T3 : Ty} : Tgt (gLst K 3 (gCons (gName i) (gCons (gName j) (gCons (gName l) gNil)))) (lstT [T1, T2, T3]) Δ (((Δ.set i (some T1)).set j (some T2)).set l (some T3)) := fun v σ H Q h t q => by
  obtain ⟨a, vs, ev, ht, h2⟩ := h
  match vs, h2 with
  | [v1, v2, v3], ⟨h1, h2, h3, _⟩ => exact ⟨a, _, ev, ht.sq, rfl, _, _, rfl, _, _, rfl, _, _, rfl, rfl, q _ (((t.set i h1).set j h2).set l h3)⟩
theorem b_asgT {tg : Expr} {g : TG} {Δ : Ctx} (hg : PG X tg g) (he : G X Γ e T) (ht : Tgt g T Γ Δ) (h : Bd X Δ rest H0 D) (hs : swapsWithSole [tg] e pos.line X.env = pure false := by rfl) (hw : swappedStores [tg] e X.env = pure none := by rfl)
    (h1 : (assignEach [tg] X.env).map (·.2) = [assign tg X.env] := by rfl) : Bd X Γ (.Assign [tg] e pos :: rest) H0 D :=
  b_cons fun σ H e0 t => toS (ps_asg (pe e) hg hs hw h1) (he σ H t _ fun v1 H1 e1 hv => ht v1 σ H1 _ hv (t.up e1) fun σ2 t2 => h σ2 H1 (e0.trans e1) t2)
end
end RL
namespace RL
open PySem PySem.Spec PyProof.Rows L2
section
variable {X : Cx} {Γ : Ctx} {e o a b c d : Expr} {es : List Expr} {T U : Ty} {Ts Us : List Ty} {pos pos2 p : Pos} {x : Str} {α : Type} {A : α → List Ty} {R : α → Ty} {k : Nat} {ps : List Str}
/-- a call whose arguments are some of the promise's -/
theorem g_callE {T' : Ty} (C : α → Prop) (F : FnG X.prog X.w X.K X.mg X.base k x ps (spG A R)) (hr : Room k X.A) (ha : GA X Γ (e :: es) Ts) (hT : ∀ vs H, All2 Ts vs H → ∃ i, All2 (A i) vs H ∧ C i) (hR : ∀ i, C i → ∀ v H, R i v H → T' v H)
    (hg : Gl X x := by rfl) (hdb : (x == ("__debug__" : Str)) = false := by decide) (he : starEach (e :: es) X.env = (false, eval e X.env) :: starEach es X.env := by first | exact se_cons rfl | exact se_one rfl | exact se_two rfl rfl | rfl) (hpl : (backTo pos (starEach es X.env)).any (·.1) = false := by first | exact se_any rfl | rfl) :
    G X Γ (.Call (.Name x p) (e :: es) [] pos) T' := fun σ H t Q q => by
  obtain ⟨f, fd, F, hm, hk, hb⟩ := F.ex
  refine toE (pe_call F hr hg hm hk hb .nil pass0 (pa _) hdb he hpl) (ha σ H t _ fun vs H1 e1 h1 => ?_)
  rw [List.append_nil]
  obtain ⟨i, hi, ci⟩ := hT _ _ h1
  exact ⟨i, hi, fun v H2 e2 h2 => q v H2 (e1.trans e2) (hR i ci v H2 h2)⟩
/-- list(l), a new list frozen at once -/
theorem g_listL {β : Type} {Ts : β → List Ty} (h : G X Γ e (exT fun z => lstT (Ts z))) (hm : X.mg "list" = none) (hg : Gl X "list" := by rfl) (he : starEach [e] X.env = (false, eval e X.env) :: starEach [] X.env := by first | exact se_cons rfl | exact se_one rfl | exact se_two rfl rfl | rfl) : G X Γ (.Call (.Name "list" p) [e] [] pos) (exT fun z => lstT (Ts z)) := fun σ H t Q q =>
  tE_frz (toE (pe_callTy call_list_of hg hm (by decide +kernel) (pa_cons (pe e) pa_nil he) (he := he)) (h σ H t _ fun v H1 e1 ⟨z, l, vs, ev, hf, h2⟩ => ⟨l, vs, by rw [ev], .inl hf.sq, fun d hd => ⟨d, _, upd_same, trivial, fun od => by
    rw [upd_upd]
    exact q _ _ (e1.trans (Ex.new hd)) ⟨z, d, vs, rfl, ⟨od, upd_same⟩, h2.up (Ex.new hd)⟩⟩⟩))
theorem one_in {ns : List Int} {p : Int → Prop} (h : ∀ n ∈ ns, p n) {v : V} {H : Hp} (hv : oneT (ns.map fun z => intT z) v H) : inT p v H := by
  obtain ⟨⟨i, hi⟩, hv⟩ := hv
  have hi' : i < ns.length := by simpa using hi
  refine ⟨⟨ns[i], h _ (List.getElem_mem hi')⟩, ?_⟩
  simpa using hv
theorem G.one {F : Unit → Ty} (h : G X Γ e (exT F)) : G X Γ e (F ()) := h.imp fun v H ⟨_, k⟩ => k
theorem G.un (h : G X Γ e T) : G X Γ e (exT fun _ : Unit => T) := h.imp fun v H k => ⟨(), k⟩
/-- sorted(l), l a frozen list of ints -/
theorem g_sortedL {ks : List Int} (h : G X Γ e (lstT (ks.map fun z => intT z))) (hm : X.mg "sorted" = none) (ys : List Int) (hy : ∀ zs : List Int, zs.Perm ks → zs.Pairwise (· ≤ ·) → zs = ys) (hg : Gl X "sorted" := by rfl) (he : starEach [e] X.env = (false, eval e X.env) :: starEach [] X.env := by first | exact se_cons rfl | exact se_one rfl | exact se_two rfl rfl | rfl) :
    G X Γ (.Call (.Name "sorted" p) [e] [] pos) (lstT (ys.map fun z => intT z)) :=
  g_callBL cr_sortedI hm (by decide +kernel) (ga_cons h ga_nil he) (fun vs H h2 Q q => by
    obtain ⟨v, ev, a, ws, e2, f, h3⟩ := one2 h2
    subst ev; subst e2
    have z : ws = ks.map V.int := All2.vals (H := H) (by rw [List.map_map]; exact h3)
    subst z
    refine ⟨a, ks, rfl, f.sq, fun zs p hp hs hn => ?_⟩
    rw [hy zs hp hs]
    exact q _ p hn (by have z := All2.of_vals (H := H) (ws := ys.map V.int); rwa [List.map_map] at z)) hg (he := he)
end
end RL
namespace RL
open PySem PySem.Spec PyProof.Rows L2
section
variable {X : Cx} {Γ : Ctx} {e o k c : Expr} {T U : Ty} {Ts : List Ty} {pos p p2 p3 p4 : Pos} {x : Str} {kvs : List (Key × V)} {H0 : Bs} {D : Ends} {rest : List Stmt} {i : Nat} {a : Addr}
/-- x[k] = e, e of a family -/
theorem b_dputX {β : Sort u} {F : β → V} (i : Nat) {kk : Key} (hT : Γ[i]? = some (some (mdT a kvs))) (hk : G X Γ k (valT (kV kk))) (he : G X Γ e (exT fun z => valT (F z))) (ha : H0.e a = none) (hl : kvs.length < sizeLine) (hS : StbC a (Γ.set i none)) (hu : X.A.units + 1 < cLine)
    (h : ∀ z, Bd X (Γ.set i (some (mdT a (putK kvs kk (F z))))) rest H0 D) {p' : Pos} (hN : X.N[i]? = some x := by rfl) (hv : Vis X.env.scope x := by first | exact Or.inl rfl | exact Or.inr (Or.inl rfl) | exact Or.inr (Or.inr rfl)) (hd : (x == ("__debug__" : Str)) = false := by decide) (hcd : (x == ("__classdict__" : Str)) = false := by decide)
    (hs : swapsWith e (some (.Subscript (.Name x p2) k p')) pos.line X.env = pure false := by rfl) : Bd X Γ (.Assign [.Subscript (.Name x p2) k p'] e pos :: rest) H0 D :=
  b_cons fun σ H e0 t => toS (ps_dput hu (pe_var (i := i) hN hv hd hcd) (pe k) (pe e) hs) (he σ H t _ fun v1 H1 e1 ⟨z, h1⟩ => by
    obtain ⟨w, hw, ew, hH⟩ := (t.up e1).get i hT
    refine ⟨w, hw, hk σ H1 (t.up e1) _ fun y H2 e2 h2 => ?_⟩
    have h1' : v1 = F z := h1
    have h2' : y = kV kk := h2
    subst h1'; subst h2'
    have hH2 := e2 _ _ hH
    refine ⟨a, _, ew, DPut.k hH2 hl, h z _ _ ((e0.trans (e1.trans e2)).mut ha hH2 trivial) (Typed.put (((t.up (e1.trans e2)).drop i).mut hS hH2 trivial) ?_ hw ⟨ew, upd_same⟩)⟩
    exact (List.getElem?_eq_some_iff.mp hT).1)
end
end RL

set_option Elab.async false
set_option linter.all false
set_option maxRecDepth 100000
set_option maxHeartbeats 4000000
/-! RLops: len by an own def; a | b of own classes (type has a reflected or) -/
namespace RL
open PySem PySem.Spec L2 PySem.W
section
variable {prog : Program} {w : World} {A : Around} {E : Value → Shared → Prop} {s : Shared} {K : Frag} {x y C D f : Addr} {ox oy : Obj} {od oe : Option Obj} {Q : Value → Shared → Prop}
theorem len_ownK (X : K.In s.heap) (I : InstAt s.heap x ox C od) (hs : findIn K (.ref C) "__len__" = some (some (.ref f))) (hf : isFn K (.ref f) = true)
    (hcall : wpAny (model prog w) A.in1 (call (.ref f) [.ref x]) (fun r s' => ∃ n u, r = .int n u ∧ 0 ≤ n ∧ n < 2 ^ 63 ∧ Q (.int n s'.toks) { s' with toks := s'.toks + 1 }) E s) :
    wpAny (model prog w) A (call (.builtin "len") [.ref x]) Q E s := by
  refine Calls.call_function_entry kind_len plain_len entry_len (args_len1 _) ?_
  unfold Builtin.«len»
  refine wpAny_bind (wpAny_pure ?_)
  refine wpAny_bind (m := callSpecial? (.ref x) (Str.ofString "__len__")) (special_fn X I hs (beq_iff_eq.mp hf) (wpAny_mono hcall (fun r s' hr => ?_) fun _ _ y => y))
  obtain ⟨n, u, rfl, h0, h1, hq⟩ := hr
  refine wpAny_bind (wpAny_holding (wpAny_pure ?_))
  refine wpAny_bind (wpAny_letGo ?_)
  show wpAny _ _ (if n < 0 then _ else _) _ _ _
  rw [if_neg (by omega)]
  show wpAny _ _ (if n ≥ 2 ^ 63 then _ else _) _ _ _
  rw [if_neg (by omega)]
  exact wpAny_bind (wpAny_mkInt (wpAny_pure ⟨_, rfl, hq⟩))
end
section
variable {X : Cx} {Cs : Addr → Prop} {k : Nat} {ps : List Str} {sp : Sp}
theorem call_lenO (F : MtG X.prog X.w X.K X.mg X.base k Cs "__len__" ps sp) (hr : Room (k + 1) X.A) :
    CallR X (.builtin "len") (fun xs H Q => ∃ x, xs = [x] ∧ InsAny Cs x H ∧ sp [x] H (fun v H' => ∃ n : Int, v = .int n ∧ 0 ≤ n ∧ n < 2 ^ 63 ∧ Q (.int n) H') E0) := by
  intro pins s σ H xs us Q I r h
  obtain ⟨x, rfl, ⟨a, C, dx, fs, ex, ha, hC⟩, q⟩ := h
  subst ex
  obtain ⟨u, rfl, ru⟩ := vals1 r
  obtain rfl : u = Value.ref a := ru
  obtain ⟨ox, od, J⟩ := inst_of I ha
  obtain ⟨f, fd, F1, _, M, B⟩ := F.ex C hC
  refine len_ownK I.kIn J M.at_ M.fn (wpAny_mono (run_fn1 (us := [.ref a]) (vs := [.ref a]) F1 hr B I (.cons rfl .nil) q) (fun v s' ⟨v', H', I', r', n, e, h0, h1, q'⟩ => ?_) fun _ _ z => z)
  subst e
  obtain ⟨t, rfl⟩ := r'
  exact ⟨n, t, rfl, h0, h1, .int n, H', I'.tok _, ⟨_, rfl⟩, q'⟩
end
/-! ### type's reflected or, bound to a class -/
abbrev rorO (C : Addr) : Obj := { cls := .type "method-wrapper", dict := none, data := .fields #[.builtin "type.__ror__", .ref C], slots := #[] }
theorem type_ror : typeOf (.builtin "type.__ror__") = pure (.type "wrapper_descriptor") := by show builtinType _ = _; rw [builtinType_eq_fast]; kernel_rfl
theorem wd_noset : typeLookup (.type "wrapper_descriptor") "__set__" = pure none := by rw [typeLookup_type, builtinLookup_eq_fast]; kernel_rfl
theorem wd_nodel : typeLookup (.type "wrapper_descriptor") "__delete__" = pure none := by rw [typeLookup_type, builtinLookup_eq_fast]; kernel_rfl
theorem nac_ror : (kfb_private% "nameAndClass") (Value.builtin "type.__ror__") = (pure (("__ror__" : Str), Value.type "type") : Sem (Str × Value)) := by kernel_rfl
theorem slot_mwne : Slot "method-wrapper" "__ne__" "method-wrapper.__ne__" :=
  .of (owner := "method-wrapper") (n := "__ne__") (by rw [typeLookup_type, builtinLookup_eq_fast]; kernel_rfl) (by decide +kernel) (by decide +kernel) (by decide +kernel)
    (by first | exact .inl (by decide +kernel) | exact .inr (by decide +kernel)) (by rw [isSubtype_type]; kernel_rfl)
theorem entry_mwne : entryFor table "method-wrapper.__ne__" = some Builtin.«method_wrapper.__ne__» := entryFor_alias (id' := "method_wrapper.__ne__") (by rw [fastTable_eq_tree]; kernel_rfl) (by kernel_rfl) (by kernel_rfl) (by rw [fastTable_eq_tree]; kernel_rfl)
theorem args_mwne (a b : Value) : argsOk "method-wrapper.__ne__" ⟨[a, b], []⟩ := by unfold argsOk; kernel_rfl
theorem sub_mw : isSubtype (.type "method-wrapper") (.type "method-wrapper") = pure true := by rw [isSubtype_type]; kernel_rfl

/-- what a class must have that type's reflected or is found on it -/
structure Rors (K : Frag) (D : Addr) : Prop where
  any : nsIn K cStatics "thirdparty.any" = some none
  ty : typeIn K (.ref D) = some (.type "type")
  ga : findIn K (.type "type") "__getattribute__" = some (some (.builtin "type.__getattribute__"))
  sub : subIn K (.type "type") (.type "type") = some true
  meta' : findIn K (.type "type") "__ror__" = some (some (.builtin "type.__ror__"))
  own : findIn K (.ref D) "__ror__" = some none
  cls : ∃ o, K.lookup D = some o ∧ o.cls = .type "type"
section
variable {prog : Program} {w : World} {A : Around} {E : Value → Shared → Prop} {s : Shared} {K : Frag} {x y C D f : Addr}
theorem run_wdr {M : Model} {P : Fin → Shared → Prop} (hin : Looks M s.heap (isInstance (.ref D) (.type "type")) true) (hq : P (.done (.ret (.ref s.heap.objs.size))) { s with heap := s.heap.push (rorO D) }) :
    wpAny M A (Builtin.«wrapper_descriptor.__get__» ⟨[.builtin "type.__ror__", .ref D, .type "type"], []⟩) P E s := by
  unfold Builtin.«wrapper_descriptor.__get__»
  refine wpAny_bind (wpAny_of_eq (a := (.builtin "type.__ror__", some (.ref D), some (.type "type"))) (by first | rfl | kernel_rfl) ?_)
  show wpAny M A ((kfb_private% "checkInstance") (.builtin "type.__ror__") (.ref D) >>= fun _ => newFields "method-wrapper" [.builtin "type.__ror__", .ref D] >>= fun r => ret r) P E _
  refine wpAny_bind ?_
  show wpAny M A ((kfb_private% "nameAndClass") (.builtin "type.__ror__") >>= _) _ E _
  refine wpAny_bind (wpAny_of_eq nac_ror ?_)
  show wpAny M A (isInstance (.ref D) (.type "type") >>= _) _ E _
  refine wpAny_bind (hin.here ?_)
  refine KFB.if_not rfl ?_
  refine wpAny_pure ?_
  exact wpAny_bind (wpAny_newObj_type (wpAny_pure hq))
theorem get_ror {tk : Tok} {Q : Option Value → Shared → Prop} (X : K.In s.heap) (l : Rors K D) (h : Q (some (.ref s.heap.objs.size)) { s with heap := s.heap.push (rorO D) }) :
    wpAny (model prog w) A (getAttrBy? (.ref D) (.str "__ror__" tk)) Q E s := by
  obtain ⟨hh, g0, d0, t0, os0⟩ := s
  have L1 : Looks (model prog w) hh (typeOf (.ref D)) (.type "type") := looks_typeIn X l.ty
  have L2 : Looks (model prog w) hh (typeLookup (.type "type") "__getattribute__") (some (.builtin "type.__getattribute__")) := looks_findIn X l.ga
  have L3 : Looks (model prog w) hh (opaqueClassAbove (.ref D)) none := looks_opaque X l.any
  have L4 : Looks (model prog w) hh (typeLookup (.type "type") "__ror__") (some (.builtin "type.__ror__")) := looks_findIn X l.meta'
  have L5 : Looks (model prog w) hh (typeLookup (.ref D) "__ror__") none := looks_findIn X l.own
  have L6 : Looks (model prog w) hh (isInstance (.ref D) (.type "type")) true := L1.andThen (looks_subIn X l.sub)
  have ne : (Value.builtin "type.__getattribute__" == Value.builtin "object.__getattribute__") = false := by decide +kernel
  unfold getAttrBy? getAttrBy
  refine wpAny_bind (wpAny_attempt (wpAny_holding (wpAny_bind (L1.at (wpAny_bind (L2.at ?_))))))
  dsimp only
  rw [ne, Bool.and_false, if_neg Bool.false_ne_true]
  unfold getAttrByItsOwn
  refine wpAny_bind (m := hookBefore (.type "type")) (wpAny_pure (wpAny_bind (wpAny_attempt (wpAny_holding ?_))))
  unfold callGetattribute
  rw [Bool.false_and, if_neg Bool.false_ne_true]
  unfold boundAndCalled
  rw [KF.slot_tga.bind]
  refine wpAny_bind (wpAny_pure ?_)
  show wpAny _ _ (call (.builtin "type.__getattribute__") [.ref D, .str "__ror__" tk]) _ _ _
  refine wpAny_call (codeAny_call_builtin KF.slot_tga.plain KF.entry_tga ?_)
  refine @check_slot (model prog w) _ _ ⟨hh, g0, d0, t0, os0⟩ "type.__getattribute__" "type" "__getattribute__" (.ref D) [.str "__ror__" tk] [] _ (by decide +kernel) (by decide +kernel) L6 (KF.args_tga (.ref D) (.str "__ror__" tk)) ?_
  unfold Builtin.«type.__getattribute__»
  refine wpAny_bind (wpAny_pure (wpAny_bind (L3.at (wpAny_bind (L1.at (wpAny_bind (L4.at ?_)))))))
  have S1 : ∀ n : Str, specialOf (.builtin "type.__ror__") n = typeLookup (.type "wrapper_descriptor") n := fun n => by
    unfold specialOf
    rw [type_ror]
    rfl
  have step : ∀ {α : Type} {v : α} {m : Sem α} (e : m = pure v) {β : Type} {k : α → Sem β} {A : Around} {E : Value → Shared → Prop} {Q : β → Shared → Prop} {s : Shared}, wpAny (model prog w) A (k v) Q E s → wpAny (model prog w) A (m >>= k) Q E s := by
    intro α v m e β k A E Q s hk
    subst e
    exact wpAny_bind (wpAny_pure hk)
  dsimp only
  refine step ((S1 _).trans ESX.slot_wd.lookup) ?_
  dsimp only
  refine step ((S1 _).trans wd_noset) ?_
  simp only [Option.isSome_none, Bool.false_eq_true, if_false]
  refine step ((S1 _).trans wd_nodel) ?_
  simp only [Option.isSome_none, Bool.false_eq_true, if_false]
  refine wpAny_bind (wpAny_pure ?_)
  simp only [Bool.false_eq_true, if_false]
  refine wpAny_bind (L5.at ?_)
  dsimp only
  have hTi : ∀ s : Shared, Shared.TypeIs s (.builtin "type.__ror__") "wrapper_descriptor" := fun _ => type_ror
  refine wpAny_bind (wpAny_holding (wpAny_call_entry ESX.slot_wd (hTi _) ESX.entry_wd (run_wdr (s := ⟨hh, g0, d0, t0, os0⟩) L6 ⟨_, rfl, ?_⟩) (ESX.args_wd _ _ _)))
  refine wpAny_pure ?_
  dsimp only
  exact wpAny_pure (wpAny_pure h)
theorem get_pushed (h : Heap) (C : Addr) : (h.push (rorO C)).get? h.objs.size = some (rorO C) := Heap.get?_push_size _ rfl
theorem same_ror {M : Model} {p q : Addr} {op oq : Obj} {Q : Bool → Shared → Prop} (hne : p ≠ q) (hp : s.heap.get? p = some op) (hq : s.heap.get? q = some oq) (hc : op.cls ≠ .type "tuple") (h : Q false s) : wpAny M A (isSame (.ref p) (.ref q)) Q E s := by
  have hb : (p == q) = false := by simpa using hne
  unfold isSame
  dsimp only
  rw [hb, if_neg Bool.false_ne_true]
  refine wpAny_bind (wpAny_load hp (wpAny_bind (wpAny_load hq ?_)))
  split
  · rename_i e _ _ _
    exact absurd e hc
  · exact wpAny_pure h
theorem ne_ror {p q : Addr} {Q : Value → Shared → Prop} (hu : A.units + 1 < cLine) (hCD : D ≠ C) (hp : s.heap.get? p = some (rorO C)) (hq : s.heap.get? q = some (rorO D)) (hC : ∃ o, s.heap.get? C = some o ∧ o.cls = .type "type") (hD : ∃ o, s.heap.get? D = some o) (h : Q (.bool true) s) : wpAny (model prog w) A (richCompare .NotEq (.ref p) (.ref q)) Q E s := by
  have tp : ∀ (a C : Addr), s.heap.get? a = some (rorO C) → Shared.TypeIs s (.ref a) "method-wrapper" := fun a C h => ⟨_, h, rfl⟩
  unfold richCompare
  simp only [oneThing_ref]
  refine wpAny_holding (wpAny_bind (wpAny_cRoomFor (Nat.lt_of_succ_lt hu) ?_))
  refine wpAny_bind (wpAny_typeOf_ref hp (wpAny_bind (wpAny_typeOf_ref hq ?_)))
  have e0 : ((rorO C).cls != (rorO D).cls) = false := by simp
  rw [e0, if_neg Bool.false_ne_true]
  refine wpAny_bind (wpAny_pure ?_)
  simp only [Bool.false_eq_true, if_false]
  have body : wpAny (model prog w) A (call (.builtin "method-wrapper.__ne__") [.ref p, .ref q]) (fun v s' => v = .bool true ∧ s' = s) E s := by
    refine wpAny_call_entry slot_mwne (tp p C hp) entry_mwne ?_ (args_mwne _ _)
    have dt : ∀ C : Addr, (rorO C).data = .fields #[.builtin "type.__ror__", .ref C] := fun _ => rfl
    have f0 : ∀ C : Addr, (#[.builtin "type.__ror__", .ref C] : Array Value)[0]? = some (.builtin "type.__ror__") := fun _ => rfl
    have f1 : ∀ C : Addr, (#[.builtin "type.__ror__", .ref C] : Array Value)[1]? = some (.ref C) := fun _ => rfl
    unfold Builtin.«method_wrapper.__ne__»
    refine wpAny_bind (wpAny_of_eq (a := ((Value.ref p : Value), [Value.ref q])) (by first | rfl | (simp only [Builtin.slotArgs]; rfl)) ?_)
    show wpAny _ _ (isInstance (.ref q) (.type "method-wrapper") >>= _) _ _ _
    refine wpAny_bind (wpAny_isInstance (tp q D hq) sub_mw ?_)
    simp only [Bool.not_true, Bool.false_eq_true, if_false]
    unfold Builtin.Method_wrapper.mwParts
    refine wpAny_bind (wpAny_bind (wpAny_field hp (dt C) (f0 C) ?_))
    dsimp only
    refine wpAny_bind (wpAny_field hp (dt C) (f1 C) (wpAny_pure ?_))
    refine wpAny_bind (wpAny_bind (wpAny_field hq (dt D) (f0 D) ?_))
    dsimp only
    refine wpAny_bind (wpAny_field hq (dt D) (f1 D) (wpAny_pure ?_))
    dsimp only
    obtain ⟨oC, hC, cC⟩ := hC
    obtain ⟨oD, hD⟩ := hD
    simp only [beq_self_eq_true, if_true]
    refine wpAny_bind (same_ror (Ne.symm hCD) hC hD (by rw [cC]; decide) ?_)
    exact wpAny_pure ⟨_, rfl, rfl, rfl⟩
  have cs : wpAny (model prog w) A (tryCompare (.ref p) "__ne__" (.ref q)) (fun r s' => r = some (.bool true) ∧ s' = s) E s := by
    unfold tryCompare
    refine wpAny_bind (m := callSpecialIfBound? (.ref p) "__ne__" [.ref q]) ?_
    simp only [callSpecialIfBound?, bindSpecialIfBound?]
    have e1 : specialOf (.ref p) "__ne__" = specialOf (.ref p) "__ne__" := rfl
    refine wpAny_holding (wpAny_bind (wpAny_bind (wpAny_specialOf (tp p C hp) slot_mwne.lookup ?_)))
    refine wpAny_bind (wpAny_askSetting (wpAny_ite ?_))
    rw [slot_mwne.bind]
    have fin : wpAny (model prog w) A (call (.builtin "method-wrapper.__ne__") ([.ref p] ++ [.ref q]) >>= fun v => pure (some v)) (fun r s' => wpAny (model prog w) A (match r with
        | some .notImplemented | none => pure none
        | some v => pure (some v)) (fun r s' => r = some (.bool true) ∧ s' = s) E s') E s := wpAny_bind (wpAny_mono body (fun v s' h' => by
      obtain ⟨rfl, rfl⟩ := h'
      exact wpAny_pure (wpAny_pure ⟨rfl, rfl⟩)) fun _ _ h' => h')
    split
    · exact wpAny_bind (wpAny_pure (wpAny_pure (by exact fin)))
    · exact wpAny_tryCatch (wpAny_bind (wpAny_pure (wpAny_pure (by exact fin))))
  refine wpAny_bind (m := tryCompare (.ref p) _ (.ref q)) (wpAny_mono cs (fun r s' z => ?_) fun _ _ e => e)
  obtain ⟨rfl, rfl⟩ := z
  exact wpAny_pure h
theorem diff_ror {Q : Bool → Shared → Prop} (X : K.In s.heap) (hu : A.units + 1 < cLine) (hCD : D ≠ C) (p1 : Looks (model prog w) s.heap (numberSlotInPython (.ref C) "or") true) (p2 : Looks (model prog w) s.heap (numberSlotInPython (.ref D) "or") true)
    (lC : Rors K C) (lD : Rors K D) (h : ∀ (h' : Heap) (tk : Nat), (∀ b o, s.heap.get? b = some o → h'.get? b = some o) → Q true { s with heap := h', toks := tk }) : wpAny (model prog w) A (reflectedDiffers (.ref C) (.ref D) "or") Q E s := by
  unfold reflectedDiffers
  refine wpAny_bind (p1.here ?_)
  simp only [Bool.not_true, Bool.false_eq_true, if_false]
  refine wpAny_bind (p2.here ?_)
  simp only [Bool.not_true, Bool.false_eq_true, if_false]
  refine wpAny_bind (wpAny_mkStr ?_ (by decide +kernel))
  have hr : dunderR "or" = "__ror__" := by decide +kernel
  rw [hr]
  refine wpAny_bind (get_ror (s := { s with toks := s.toks + 1 }) X lD ?_)
  dsimp only
  have k1 : ∀ b o, s.heap.get? b = some o → (s.heap.push (rorO D)).get? b = some o := fun b o hb => Heap.get?_push_of_some _ hb
  refine wpAny_holding (wpAny_bind (get_ror (s := { s with heap := s.heap.push (rorO D), toks := s.toks + 1 }) (X.keeps k1) lC ?_))
  dsimp only
  have sz : (s.heap.push (rorO D)).objs.size = s.heap.objs.size + 1 := Heap.size_push ..
  have k2 : ∀ b o, (s.heap.push (rorO D)).get? b = some o → ((s.heap.push (rorO D)).push (rorO C)).get? b = some o := fun b o hb => Heap.get?_push_of_some _ hb
  have g1 : ((s.heap.push (rorO D)).push (rorO C)).get? s.heap.objs.size = some (rorO D) := k2 _ _ (get_pushed s.heap D)
  have g2 : ((s.heap.push (rorO D)).push (rorO C)).get? (s.heap.push (rorO D)).objs.size = some (rorO C) := get_pushed _ C
  have K3 : K.In ((s.heap.push (rorO D)).push (rorO C)) := (X.keeps k1).keeps k2
  obtain ⟨oC, hoC, cC⟩ := lC.cls
  obtain ⟨oD, hoD, cD⟩ := lD.cls
  refine wpAny_holding (wpAny_bind (same_ror (s := { s with heap := (s.heap.push (rorO D)).push (rorO C), toks := s.toks + 1 }) (by rw [sz]; exact Nat.succ_ne_self _) g2 g1 (by show Value.type "method-wrapper" ≠ _; decide) ?_))
  simp only [Bool.false_eq_true, if_false]
  refine wpAny_bind (ne_ror (s := { s with heap := (s.heap.push (rorO D)).push (rorO C), toks := s.toks + 1 }) hu hCD g2 g1 ⟨oC, K3 _ _ hoC, cC⟩ ⟨oD, K3 _ _ hoD⟩ ?_)
  exact wpAny_pure (h _ _ fun b o hb => k2 _ _ (k1 _ _ hb))
end
end RL

set_option Elab.async false
set_option linter.all false
set_option maxRecDepth 100000
set_option maxHeartbeats 4000000
/-! RLor: a | b of own classes of which one may descend from the other -/
namespace RL
open PySem PySem.Spec L2 PySem.W
section
variable {prog : Program} {w : World} {A : Around} {E : Value → Shared → Prop} {s : Shared} {K : Frag} {x y C D f : Addr} {ox oy : Obj} {od oe : Option Obj} {Q : Value → Shared → Prop}
theorem try_none {a b : Value} {Q : Option Value → Shared → Prop} (hs : Looks (model prog w) s.heap (specialOf a "__ror__") none) (h : Q none s) : wpAny (model prog w) A (tryMethod a "__ror__" b) Q E s := by
  unfold tryMethod callSpecial?
  refine wpAny_bind (wpAny_bind (hs.here (wpAny_pure ?_)))
  exact wpAny_pure h
theorem binop_or (X : K.In s.heap) (hu : A.units + 1 < cLine) (I : InstAt s.heap x ox C od) (J : InstAt s.heap y oy D oe) (nC : selfFirst K C = true) (nD : selfFirst K D = true)
    (hs : findIn K (.ref C) "__or__" = some (some (.ref f))) (hf : isFn K (.ref f) = true) (rC : Rors K C) (rD : Rors K D) (hsD : ∃ g : Addr, findIn K (.ref D) "__or__" = some (some (.ref g)))
    (hsub : C ≠ D → ∃ r, subIn K (.ref D) (.ref C) = some r)
    (h : ∀ (h' : Heap) (tk : Nat), (∀ b o, s.heap.get? b = some o → h'.get? b = some o) → wpAny (model prog w) A (call (.ref f) [.ref x, .ref y]) (CmpBack Q) E { s with heap := h', toks := tk }) : wpAny (model prog w) A (binaryOp .BitOr (.ref x) (.ref y)) Q E s := by
  obtain ⟨cd, rest, hcd, hm⟩ := ksp_first nC
  obtain ⟨cd', rest', hcd', hm'⟩ := ksp_first nD
  obtain ⟨g, hsD⟩ := hsD
  have tail : ∀ (h' : Heap) (tk : Nat), (∀ b o, s.heap.get? b = some o → h'.get? b = some o) → wpAny (model prog w) A (tryMethod (.ref x) (PySem.dunder "or") (.ref y)) (fun r s' => ∃ v, r = some v ∧ Q v s') E { s with heap := h', toks := tk } := fun h' tk k =>
    ksp_try (X.keeps k) (inst_up k I) hs hf (h h' tk k)
  have L1 : Looks (model prog w) s.heap (typeOf (.ref x)) (.ref C) := I.type
  have L2 : Looks (model prog w) s.heap (typeOf (.ref y)) (.ref D) := J.type
  have L3 : Looks (model prog w) s.heap (fillsNumberSlot (.ref C) "or") true := fills_K X hcd hm hs
  have L4 : Looks (model prog w) s.heap (fillsNumberSlot (.ref D) "or") true := fills_K X hcd' hm' hsD
  have L6 : Looks (model prog w) s.heap (numberSlotInPython (.ref C) "or") true := ksp_inPy X hs rC.own (.inl rfl)
  have L7 : Looks (model prog w) s.heap (numberSlotInPython (.ref D) "or") true := ksp_inPy X hsD rD.own (.inl rfl)
  obtain ⟨hh, g0, d0, t0, os0⟩ := s
  have one : wpAny (model prog w) A (tryMethod (.ref x) (PySem.dunder "or") (.ref y)) (fun r s' => ∃ v, r = some v ∧ Q v s') E ⟨hh, g0, d0, t0, os0⟩ := tail hh t0 fun _ _ z => z
  have hi : Operator.BitOr.info = ("|", "or") := rfl
  simp only [binaryOp, hi]
  refine wpAny_holding (wpAny_bind ?_)
  unfold binaryOp1
  refine wpAny_bind (L1.at (wpAny_bind (L2.at (wpAny_bind (L3.at ?_)))))
  by_cases e : C = D
  · subst e
    simp only [beq_self_eq_true, if_true]
    ksp_lk
    refine wpAny_mono one (fun r s' hr' => ?_) fun _ _ e => e
    obtain ⟨v, rfl, hq⟩ := hr'
    ksp_lk
    exact hq
  · have hne : (Value.ref C == Value.ref D) = false := Bool.eq_false_iff.mpr fun q => e (by cases beq_iff_eq.mp q; rfl)
    obtain ⟨r, hr2⟩ := hsub e
    have L5 : Looks (model prog w) hh (isSubtype (.ref D) (.ref C)) r := looks_subIn X hr2
    simp only [hne, Bool.false_eq_true, if_false]
    cases r with
    | false =>
      ksp_lk
      refine wpAny_mono one (fun r s' hr' => ?_) fun _ _ e => e
      obtain ⟨v, rfl, hq⟩ := hr'
      ksp_lk
      exact hq
    | true =>
      refine wpAny_bind (L4.at ?_)
      simp only [Bool.and_self, if_true]
      refine wpAny_bind (L5.at ?_)
      simp only [if_true]
      refine wpAny_bind (diff_ror (s := ⟨hh, g0, d0, t0, os0⟩) X hu (Ne.symm e) L6 L7 rC rD fun h' tk k => ?_)
      have two : wpAny (model prog w) A (tryMethod (.ref x) (PySem.dunder "or") (.ref y)) (fun r s' => ∃ v, r = some v ∧ Q v s') E ⟨h', g0, d0, tk, os0⟩ := tail h' tk k
      have hsp : Looks (model prog w) h' (specialOf (.ref y) "__ror__") none := (inst_up k J).type.andThen (looks_findIn (X.keeps k) rD.own)
      have hr0 : dunderR "or" = "__ror__" := by decide +kernel
      simp only [hr0, Bool.false_eq_true, if_false, Bool.not_true, Bool.and_false, if_true]
      refine wpAny_bind (m := tryMethod (.ref y) "__ror__" (.ref x)) ?_
      refine try_none (s := ⟨h', g0, d0, tk, os0⟩) hsp ?_
      dsimp only
      refine wpAny_bind (wpAny_pure ?_)
      simp only [Bool.false_eq_true, if_false]
      refine wpAny_bind (wpAny_mono two (fun r s' hr' => ?_) fun _ _ e => e)
      obtain ⟨v, rfl, hq⟩ := hr'
      exact wpAny_pure (wpAny_pure hq)
end
section
variable {X : Cx} {Cs : Addr → Prop} {k : Nat} {m : Str} {ps : List Str} {sp : Sp}
/-- x | y by the text's own def -/
theorem op_ownOr (Fa : Fam X.K Cs) (F : MtG X.prog X.w X.K X.mg X.base k Cs "__or__" ps sp) (hr : Room k X.A) (hl : ∀ D, Cs D → Rors X.K D) :
    OpR X (binaryOp .BitOr) (fun x y H Q => InsAny Cs x H ∧ InsAny Cs y H ∧ sp [x, y] H Q E0) := by
  intro pins s σ H x y v u Q I rx ry h
  obtain ⟨⟨a, C, dx, fs, ex, ha, hC⟩, ⟨b, D, dy, gs, ey, hb, hD⟩, q⟩ := h
  subst ex; subst ey; cases rx; cases ry
  obtain ⟨ox, od, J⟩ := inst_of I ha
  obtain ⟨oy, oe, J2⟩ := inst_of I hb
  obtain ⟨f, fd, F1, _, M, B⟩ := F.ex C hC
  obtain ⟨g, _, _, _, M2, _⟩ := F.ex D hD
  have hu : X.A.units + 1 < cLine := hu_of hr
  refine binop_or I.kIn hu J J2 (Fa.first C hC) (Fa.first D hD) M.at_ M.fn (hl C hC) (hl D hD) ⟨g, M2.at_⟩ (fun ne => Fa.sub C D hC hD ne) fun h' tk kp => ?_
  have I' : Inv X pins σ H { s with heap := h', toks := tk } := I.un (Un.kept kp) (I.hok.kept kp)
  exact wpAny_mono (run_fn (us := [.ref a, .ref b]) (vs := [.ref a, .ref b]) F1 hr B .nil pass0 I' (.cons rfl (.cons rfl .nil)) q) (fun _ _ z => back_of z) fun _ _ z => z
end
open PySem.W in
def rorsB (K : Frag) (D : Addr) : Bool := He.eqO (nsIn K cStatics "thirdparty.any") (some none) && decide (typeIn K (.ref D) = some (.type "type")) && He.eqO (findIn K (.type "type") "__getattribute__") (some (some (.builtin "type.__getattribute__"))) &&
  decide (subIn K (.type "type") (.type "type") = some true) && He.eqO (findIn K (.type "type") "__ror__") (some (some (.builtin "type.__ror__"))) && He.eqO (findIn K (.ref D) "__ror__") (some none) &&
  (match K.lookup D with
    | some o => decide (o.cls = .type "type")
    | none => false)
theorem rors_of {K : Frag} {D : Addr} (h : rorsB K D = true) : Rors K D := by
  unfold rorsB at h
  simp only [Bool.and_eq_true, decide_eq_true_eq] at h
  obtain ⟨⟨⟨⟨⟨⟨h1, h2⟩, h3⟩, h4⟩, h5⟩, h6⟩, h7⟩ := h
  refine ⟨He.eqO_ok h1, h2, He.eqO_ok h3, h4, He.eqO_ok h5, He.eqO_ok h6, ?_⟩
  split at h7
  · rename_i o e
    exact ⟨o, e, of_decide_eq_true h7⟩
  · cases h7
end RL

set_option Elab.async false
set_option linter.all false
set_option maxRecDepth 100000
set_option maxHeartbeats 0
namespace K05
open PySem PySem.Spec PyProof.Rows L2 RL
def top (i : Nat) : Stmt := PySem.Challenge.pw_timesalone_k05_whole_rules_of_multiplica.main.body.getD i (.Pass ⟨0, 0, 0, 0⟩)
abbrev s_is_integer : Stmt := top 9
abbrev s_is_prime : Stmt := top 10
abbrev s_is_known_prime : Stmt := top 11
abbrev s_number_of : Stmt := top 16
abbrev s_product : Stmt := top 17
abbrev s__law_bag : Stmt := top 19
abbrev s__law_made : Stmt := top 20
abbrev s__law_primes : Stmt := top 21
abbrev s__law_take : Stmt := top 22
abbrev s__law_of : Stmt := top 23
abbrev s__law_some_powers : Stmt := top 24
abbrev s_law : Stmt := top 25
abbrev s_Number___init__ : Stmt := inClass (top 14) 1
abbrev s_MadeNumber___init__ : Stmt := inClass (top 15) 0
abbrev s_Number_pairs : Stmt := inClass (top 14) 4
abbrev s_Number_primes : Stmt := inClass (top 14) 5
abbrev s_Number_exponent : Stmt := inClass (top 14) 6
abbrev s_Number_joined : Stmt := inClass (top 14) 9
abbrev s_Number___mul__ : Stmt := inClass (top 14) 10
abbrev s_Number___and__ : Stmt := inClass (top 14) 11
abbrev s_Number___or__ : Stmt := inClass (top 14) 12
abbrev s_Number_divides : Stmt := inClass (top 14) 13
abbrev s_Number_raised : Stmt := inClass (top 14) 14
abbrev s_Number_over : Stmt := inClass (top 14) 15
abbrev s_Number___eq__ : Stmt := inClass (top 14) 16
abbrev s_Number___len__ : Stmt := inClass (top 14) 17
def d_is_integer : He.DefD := ⟨("is_integer", none), "is_integer", "is_integer", defArgs s_is_integer, defBody s_is_integer, defScope s_is_integer, [], []⟩
def d_is_prime : He.DefD := ⟨("is_prime", none), "is_prime", "is_prime", defArgs s_is_prime, defBody s_is_prime, defScope s_is_prime, [], []⟩
def d_is_known_prime : He.DefD := ⟨("is_known_prime", none), "is_known_prime", "is_known_prime", defArgs s_is_known_prime, defBody s_is_known_prime, defScope s_is_known_prime, [], []⟩
def d_number_of : He.DefD := ⟨("number_of", none), "number_of", "number_of", defArgs s_number_of, defBody s_number_of, defScope s_number_of, [], []⟩
def d_product : He.DefD := ⟨("product", none), "product", "product", defArgs s_product, defBody s_product, defScope s_product, [], []⟩
def d__law_bag : He.DefD := ⟨("_law_bag", none), "_law_bag", "_law_bag", defArgs s__law_bag, defBody s__law_bag, defScope s__law_bag, [], []⟩
def d__law_made : He.DefD := ⟨("_law_made", none), "_law_made", "_law_made", defArgs s__law_made, defBody s__law_made, defScope s__law_made, [], []⟩
def d__law_primes : He.DefD := ⟨("_law_primes", none), "_law_primes", "_law_primes", defArgs s__law_primes, defBody s__law_primes, defScope s__law_primes, [], []⟩
def d__law_take : He.DefD := ⟨("_law_take", none), "_law_take", "_law_take", defArgs s__law_take, defBody s__law_take, defScope s__law_take, [], []⟩
def d__law_of : He.DefD := ⟨("_law_of", none), "_law_of", "_law_of", defArgs s__law_of, defBody s__law_of, defScope s__law_of, [], []⟩
def d__law_some_powers : He.DefD := ⟨("_law_some_powers", none), "_law_some_powers", "_law_some_powers", defArgs s__law_some_powers, defBody s__law_some_powers, defScope s__law_some_powers, [], []⟩
def d_law : He.DefD := ⟨("law", none), "law", "law", defArgs s_law, defBody s_law, defScope s_law, [], []⟩
def d_Number___init__ : He.DefD := ⟨("Number", some "__init__"), "__init__", "Number.__init__", defArgs s_Number___init__, defBody s_Number___init__, defScope s_Number___init__, [], []⟩
def d_MadeNumber___init__ : He.DefD := ⟨("MadeNumber", some "__init__"), "__init__", "MadeNumber.__init__", defArgs s_MadeNumber___init__, defBody s_MadeNumber___init__, defScope s_MadeNumber___init__, [], []⟩
def d_Number_pairs : He.DefD := ⟨("Number", some "pairs"), "pairs", "Number.pairs", defArgs s_Number_pairs, defBody s_Number_pairs, defScope s_Number_pairs, [], []⟩
def d_MadeNumber_pairs : He.DefD := ⟨("MadeNumber", some "pairs"), "pairs", "Number.pairs", defArgs s_Number_pairs, defBody s_Number_pairs, defScope s_Number_pairs, [], []⟩
def d_Number_primes : He.DefD := ⟨("Number", some "primes"), "primes", "Number.primes", defArgs s_Number_primes, defBody s_Number_primes, defScope s_Number_primes, [], []⟩
def d_MadeNumber_primes : He.DefD := ⟨("MadeNumber", some "primes"), "primes", "Number.primes", defArgs s_Number_primes, defBody s_Number_primes, defScope s_Number_primes, [], []⟩
def d_Number_exponent : He.DefD := ⟨("Number", some "exponent"), "exponent", "Number.exponent", defArgs s_Number_exponent, defBody s_Number_exponent, defScope s_Number_exponent, [], []⟩
def d_MadeNumber_exponent : He.DefD := ⟨("MadeNumber", some "exponent"), "exponent", "Number.exponent", defArgs s_Number_exponent, defBody s_Number_exponent, defScope s_Number_exponent, [], []⟩
def d_Number_joined : He.DefD := ⟨("Number", some "joined"), "joined", "Number.joined", defArgs s_Number_joined, defBody s_Number_joined, defScope s_Number_joined, [], []⟩
def d_MadeNumber_joined : He.DefD := ⟨("MadeNumber", some "joined"), "joined", "Number.joined", defArgs s_Number_joined, defBody s_Number_joined, defScope s_Number_joined, [], []⟩
def d_Number___mul__ : He.DefD := ⟨("Number", some "__mul__"), "__mul__", "Number.__mul__", defArgs s_Number___mul__, defBody s_Number___mul__, defScope s_Number___mul__, [], []⟩
def d_MadeNumber___mul__ : He.DefD := ⟨("MadeNumber", some "__mul__"), "__mul__", "Number.__mul__", defArgs s_Number___mul__, defBody s_Number___mul__, defScope s_Number___mul__, [], []⟩
def d_Number___and__ : He.DefD := ⟨("Number", some "__and__"), "__and__", "Number.__and__", defArgs s_Number___and__, defBody s_Number___and__, defScope s_Number___and__, [], []⟩
def d_MadeNumber___and__ : He.DefD := ⟨("MadeNumber", some "__and__"), "__and__", "Number.__and__", defArgs s_Number___and__, defBody s_Number___and__, defScope s_Number___and__, [], []⟩
def d_Number___or__ : He.DefD := ⟨("Number", some "__or__"), "__or__", "Number.__or__", defArgs s_Number___or__, defBody s_Number___or__, defScope s_Number___or__, [], []⟩
def d_MadeNumber___or__ : He.DefD := ⟨("MadeNumber", some "__or__"), "__or__", "Number.__or__", defArgs s_Number___or__, defBody s_Number___or__, defScope s_Number___or__, [], []⟩
def d_Number_divides : He.DefD := ⟨("Number", some "divides"), "divides", "Number.divides", defArgs s_Number_divides, defBody s_Number_divides, defScope s_Number_divides, [], []⟩
def d_MadeNumber_divides : He.DefD := ⟨("MadeNumber", some "divides"), "divides", "Number.divides", defArgs s_Number_divides, defBody s_Number_divides, defScope s_Number_divides, [], []⟩
def d_Number_raised : He.DefD := ⟨("Number", some "raised"), "raised", "Number.raised", defArgs s_Number_raised, defBody s_Number_raised, defScope s_Number_raised, [], []⟩
def d_MadeNumber_raised : He.DefD := ⟨("MadeNumber", some "raised"), "raised", "Number.raised", defArgs s_Number_raised, defBody s_Number_raised, defScope s_Number_raised, [], []⟩
def d_Number_over : He.DefD := ⟨("Number", some "over"), "over", "Number.over", defArgs s_Number_over, defBody s_Number_over, defScope s_Number_over, [], []⟩
def d_MadeNumber_over : He.DefD := ⟨("MadeNumber", some "over"), "over", "Number.over", defArgs s_Number_over, defBody s_Number_over, defScope s_Number_over, [], []⟩
def d_Number___eq__ : He.DefD := ⟨("Number", some "__eq__"), "__eq__", "Number.__eq__", defArgs s_Number___eq__, defBody s_Number___eq__, defScope s_Number___eq__, [], []⟩
def d_MadeNumber___eq__ : He.DefD := ⟨("MadeNumber", some "__eq__"), "__eq__", "Number.__eq__", defArgs s_Number___eq__, defBody s_Number___eq__, defScope s_Number___eq__, [], []⟩
def d_Number___len__ : He.DefD := ⟨("Number", some "__len__"), "__len__", "Number.__len__", defArgs s_Number___len__, defBody s_Number___len__, defScope s_Number___len__, [], []⟩
def d_MadeNumber___len__ : He.DefD := ⟨("MadeNumber", some "__len__"), "__len__", "Number.__len__", defArgs s_Number___len__, defBody s_Number___len__, defScope s_Number___len__, [], []⟩
def fn : List He.DefD := ([d_is_integer, d_is_prime, d_is_known_prime, d_number_of, d_product, d__law_bag, d__law_made, d__law_primes, d__law_take, d__law_of, d__law_some_powers, d_law, d_Number___init__, d_MadeNumber___init__, d_Number_pairs, d_MadeNumber_pairs, d_Number_primes, d_MadeNumber_primes, d_Number_exponent, d_MadeNumber_exponent, d_Number_joined, d_MadeNumber_joined, d_Number___mul__, d_MadeNumber___mul__, d_Number___and__, d_MadeNumber___and__, d_Number___or__, d_MadeNumber___or__, d_Number_divides, d_MadeNumber_divides] : List He.DefD) ++ ([d_Number_raised, d_MadeNumber_raised, d_Number_over, d_MadeNumber_over, d_Number___eq__, d_MadeNumber___eq__, d_Number___len__, d_MadeNumber___len__] : List He.DefD)
def fa : List He.Fa := ([.glo "is_integer", .glo "is_prime", .glo "is_known_prime", .glo "number_of", .glo "product", .glo "_law_bag", .glo "_law_made", .glo "_law_primes", .glo "_law_take", .glo "_law_of", .glo "_law_some_powers", .glo "law", .glo "Number", .glo "MadeNumber", .free "len", .free "isinstance", .free "int", .free "bool", .free "tuple", .free "list", .free "set", .free "sorted", .free "all", .free "min", .free "max", .free "range", .free "enumerate", .free "dict", .int "MOST_PRIME" 1000, .cls "Number"] : List He.Fa) ++ ([.noat "Number" "powers", .mkr "Number", .keep "Number", .meth "Number" "pairs", .meth "Number" "primes", .meth "Number" "exponent", .meth "Number" "joined", .meth "Number" "__mul__", .meth "Number" "__and__", .meth "Number" "__or__", .meth "Number" "divides", .meth "Number" "raised", .meth "Number" "over", .meth "Number" "__eq__", .meth "Number" "__len__", .cls "MadeNumber", .noat "MadeNumber" "powers", .mkr "MadeNumber", .keep "MadeNumber", .meth "MadeNumber" "pairs", .meth "MadeNumber" "primes", .meth "MadeNumber" "exponent", .meth "MadeNumber" "joined", .meth "MadeNumber" "__mul__", .meth "MadeNumber" "__and__", .meth "MadeNumber" "__or__", .meth "MadeNumber" "divides", .meth "MadeNumber" "raised", .meth "MadeNumber" "over", .meth "MadeNumber" "__eq__"] : List He.Fa) ++ ([.meth "MadeNumber" "__len__"] : List He.Fa)
theorem i_is_integer : d_is_integer ∈ fn := List.mem_of_getElem? (i := 0) rfl
theorem i_is_prime : d_is_prime ∈ fn := List.mem_of_getElem? (i := 1) rfl
theorem i_is_known_prime : d_is_known_prime ∈ fn := List.mem_of_getElem? (i := 2) rfl
theorem i_number_of : d_number_of ∈ fn := List.mem_of_getElem? (i := 3) rfl
theorem i_product : d_product ∈ fn := List.mem_of_getElem? (i := 4) rfl
theorem i__law_bag : d__law_bag ∈ fn := List.mem_of_getElem? (i := 5) rfl
theorem i__law_made : d__law_made ∈ fn := List.mem_of_getElem? (i := 6) rfl
theorem i__law_primes : d__law_primes ∈ fn := List.mem_of_getElem? (i := 7) rfl
theorem i__law_take : d__law_take ∈ fn := List.mem_of_getElem? (i := 8) rfl
theorem i__law_of : d__law_of ∈ fn := List.mem_of_getElem? (i := 9) rfl
theorem i__law_some_powers : d__law_some_powers ∈ fn := List.mem_of_getElem? (i := 10) rfl
theorem i_law : d_law ∈ fn := List.mem_of_getElem? (i := 11) rfl
theorem i_Number___init__ : d_Number___init__ ∈ fn := List.mem_of_getElem? (i := 12) rfl
theorem i_MadeNumber___init__ : d_MadeNumber___init__ ∈ fn := List.mem_of_getElem? (i := 13) rfl
theorem i_Number_pairs : d_Number_pairs ∈ fn := List.mem_of_getElem? (i := 14) rfl
theorem i_MadeNumber_pairs : d_MadeNumber_pairs ∈ fn := List.mem_of_getElem? (i := 15) rfl
theorem i_Number_primes : d_Number_primes ∈ fn := List.mem_of_getElem? (i := 16) rfl
theorem i_MadeNumber_primes : d_MadeNumber_primes ∈ fn := List.mem_of_getElem? (i := 17) rfl
theorem i_Number_exponent : d_Number_exponent ∈ fn := List.mem_of_getElem? (i := 18) rfl
theorem i_MadeNumber_exponent : d_MadeNumber_exponent ∈ fn := List.mem_of_getElem? (i := 19) rfl
theorem i_Number_joined : d_Number_joined ∈ fn := List.mem_of_getElem? (i := 20) rfl
theorem i_MadeNumber_joined : d_MadeNumber_joined ∈ fn := List.mem_of_getElem? (i := 21) rfl
theorem i_Number___mul__ : d_Number___mul__ ∈ fn := List.mem_of_getElem? (i := 22) rfl
theorem i_MadeNumber___mul__ : d_MadeNumber___mul__ ∈ fn := List.mem_of_getElem? (i := 23) rfl
theorem i_Number___and__ : d_Number___and__ ∈ fn := List.mem_of_getElem? (i := 24) rfl
theorem i_MadeNumber___and__ : d_MadeNumber___and__ ∈ fn := List.mem_of_getElem? (i := 25) rfl
theorem i_Number___or__ : d_Number___or__ ∈ fn := List.mem_of_getElem? (i := 26) rfl
theorem i_MadeNumber___or__ : d_MadeNumber___or__ ∈ fn := List.mem_of_getElem? (i := 27) rfl
theorem i_Number_divides : d_Number_divides ∈ fn := List.mem_of_getElem? (i := 28) rfl
theorem i_MadeNumber_divides : d_MadeNumber_divides ∈ fn := List.mem_of_getElem? (i := 29) rfl
theorem i_Number_raised : d_Number_raised ∈ fn := List.mem_of_getElem? (i := 30) rfl
theorem i_MadeNumber_raised : d_MadeNumber_raised ∈ fn := List.mem_of_getElem? (i := 31) rfl
theorem i_Number_over : d_Number_over ∈ fn := List.mem_of_getElem? (i := 32) rfl
theorem i_MadeNumber_over : d_MadeNumber_over ∈ fn := List.mem_of_getElem? (i := 33) rfl
theorem i_Number___eq__ : d_Number___eq__ ∈ fn := List.mem_of_getElem? (i := 34) rfl
theorem i_MadeNumber___eq__ : d_MadeNumber___eq__ ∈ fn := List.mem_of_getElem? (i := 35) rfl
theorem i_Number___len__ : d_Number___len__ ∈ fn := List.mem_of_getElem? (i := 36) rfl
theorem i_MadeNumber___len__ : d_MadeNumber___len__ ∈ fn := List.mem_of_getElem? (i := 37) rfl
theorem q_glo_is_integer : (He.Fa.glo "is_integer") ∈ fa := List.mem_of_getElem? (i := 0) rfl
theorem q_glo_is_prime : (He.Fa.glo "is_prime") ∈ fa := List.mem_of_getElem? (i := 1) rfl
theorem q_glo_is_known_prime : (He.Fa.glo "is_known_prime") ∈ fa := List.mem_of_getElem? (i := 2) rfl
theorem q_glo_number_of : (He.Fa.glo "number_of") ∈ fa := List.mem_of_getElem? (i := 3) rfl
theorem q_glo_product : (He.Fa.glo "product") ∈ fa := List.mem_of_getElem? (i := 4) rfl
theorem q_glo__law_bag : (He.Fa.glo "_law_bag") ∈ fa := List.mem_of_getElem? (i := 5) rfl
theorem q_glo__law_made : (He.Fa.glo "_law_made") ∈ fa := List.mem_of_getElem? (i := 6) rfl
theorem q_glo__law_primes : (He.Fa.glo "_law_primes") ∈ fa := List.mem_of_getElem? (i := 7) rfl
theorem q_glo__law_take : (He.Fa.glo "_law_take") ∈ fa := List.mem_of_getElem? (i := 8) rfl
theorem q_glo__law_of : (He.Fa.glo "_law_of") ∈ fa := List.mem_of_getElem? (i := 9) rfl
theorem q_glo__law_some_powers : (He.Fa.glo "_law_some_powers") ∈ fa := List.mem_of_getElem? (i := 10) rfl
theorem q_glo_law : (He.Fa.glo "law") ∈ fa := List.mem_of_getElem? (i := 11) rfl
theorem q_glo_Number : (He.Fa.glo "Number") ∈ fa := List.mem_of_getElem? (i := 12) rfl
theorem q_glo_MadeNumber : (He.Fa.glo "MadeNumber") ∈ fa := List.mem_of_getElem? (i := 13) rfl
theorem q_free_len : (He.Fa.free "len") ∈ fa := List.mem_of_getElem? (i := 14) rfl
theorem q_free_isinstance : (He.Fa.free "isinstance") ∈ fa := List.mem_of_getElem? (i := 15) rfl
theorem q_free_int : (He.Fa.free "int") ∈ fa := List.mem_of_getElem? (i := 16) rfl
theorem q_free_bool : (He.Fa.free "bool") ∈ fa := List.mem_of_getElem? (i := 17) rfl
theorem q_free_tuple : (He.Fa.free "tuple") ∈ fa := List.mem_of_getElem? (i := 18) rfl
theorem q_free_list : (He.Fa.free "list") ∈ fa := List.mem_of_getElem? (i := 19) rfl
theorem q_free_set : (He.Fa.free "set") ∈ fa := List.mem_of_getElem? (i := 20) rfl
theorem q_free_sorted : (He.Fa.free "sorted") ∈ fa := List.mem_of_getElem? (i := 21) rfl
theorem q_free_all : (He.Fa.free "all") ∈ fa := List.mem_of_getElem? (i := 22) rfl
theorem q_free_min : (He.Fa.free "min") ∈ fa := List.mem_of_getElem? (i := 23) rfl
theorem q_free_max : (He.Fa.free "max") ∈ fa := List.mem_of_getElem? (i := 24) rfl
theorem q_free_range : (He.Fa.free "range") ∈ fa := List.mem_of_getElem? (i := 25) rfl
theorem q_free_enumerate : (He.Fa.free "enumerate") ∈ fa := List.mem_of_getElem? (i := 26) rfl
theorem q_free_dict : (He.Fa.free "dict") ∈ fa := List.mem_of_getElem? (i := 27) rfl
theorem q_int_MOST_PRIME : (He.Fa.int "MOST_PRIME" 1000) ∈ fa := List.mem_of_getElem? (i := 28) rfl
theorem q_cls_Number : (He.Fa.cls "Number") ∈ fa := List.mem_of_getElem? (i := 29) rfl
theorem q_noat_Number_powers : (He.Fa.noat "Number" "powers") ∈ fa := List.mem_of_getElem? (i := 30) rfl
theorem q_mkr_Number : (He.Fa.mkr "Number") ∈ fa := List.mem_of_getElem? (i := 31) rfl
theorem q_keep_Number : (He.Fa.keep "Number") ∈ fa := List.mem_of_getElem? (i := 32) rfl
theorem q_meth_Number_pairs : (He.Fa.meth "Number" "pairs") ∈ fa := List.mem_of_getElem? (i := 33) rfl
theorem q_meth_Number_primes : (He.Fa.meth "Number" "primes") ∈ fa := List.mem_of_getElem? (i := 34) rfl
theorem q_meth_Number_exponent : (He.Fa.meth "Number" "exponent") ∈ fa := List.mem_of_getElem? (i := 35) rfl
theorem q_meth_Number_joined : (He.Fa.meth "Number" "joined") ∈ fa := List.mem_of_getElem? (i := 36) rfl
theorem q_meth_Number___mul__ : (He.Fa.meth "Number" "__mul__") ∈ fa := List.mem_of_getElem? (i := 37) rfl
theorem q_meth_Number___and__ : (He.Fa.meth "Number" "__and__") ∈ fa := List.mem_of_getElem? (i := 38) rfl
theorem q_meth_Number___or__ : (He.Fa.meth "Number" "__or__") ∈ fa := List.mem_of_getElem? (i := 39) rfl
theorem q_meth_Number_divides : (He.Fa.meth "Number" "divides") ∈ fa := List.mem_of_getElem? (i := 40) rfl
theorem q_meth_Number_raised : (He.Fa.meth "Number" "raised") ∈ fa := List.mem_of_getElem? (i := 41) rfl
theorem q_meth_Number_over : (He.Fa.meth "Number" "over") ∈ fa := List.mem_of_getElem? (i := 42) rfl
theorem q_meth_Number___eq__ : (He.Fa.meth "Number" "__eq__") ∈ fa := List.mem_of_getElem? (i := 43) rfl
theorem q_meth_Number___len__ : (He.Fa.meth "Number" "__len__") ∈ fa := List.mem_of_getElem? (i := 44) rfl
theorem q_cls_MadeNumber : (He.Fa.cls "MadeNumber") ∈ fa := List.mem_of_getElem? (i := 45) rfl
theorem q_noat_MadeNumber_powers : (He.Fa.noat "MadeNumber" "powers") ∈ fa := List.mem_of_getElem? (i := 46) rfl
theorem q_mkr_MadeNumber : (He.Fa.mkr "MadeNumber") ∈ fa := List.mem_of_getElem? (i := 47) rfl
theorem q_keep_MadeNumber : (He.Fa.keep "MadeNumber") ∈ fa := List.mem_of_getElem? (i := 48) rfl
theorem q_meth_MadeNumber_pairs : (He.Fa.meth "MadeNumber" "pairs") ∈ fa := List.mem_of_getElem? (i := 49) rfl
theorem q_meth_MadeNumber_primes : (He.Fa.meth "MadeNumber" "primes") ∈ fa := List.mem_of_getElem? (i := 50) rfl
theorem q_meth_MadeNumber_exponent : (He.Fa.meth "MadeNumber" "exponent") ∈ fa := List.mem_of_getElem? (i := 51) rfl
theorem q_meth_MadeNumber_joined : (He.Fa.meth "MadeNumber" "joined") ∈ fa := List.mem_of_getElem? (i := 52) rfl
theorem q_meth_MadeNumber___mul__ : (He.Fa.meth "MadeNumber" "__mul__") ∈ fa := List.mem_of_getElem? (i := 53) rfl
theorem q_meth_MadeNumber___and__ : (He.Fa.meth "MadeNumber" "__and__") ∈ fa := List.mem_of_getElem? (i := 54) rfl
theorem q_meth_MadeNumber___or__ : (He.Fa.meth "MadeNumber" "__or__") ∈ fa := List.mem_of_getElem? (i := 55) rfl
theorem q_meth_MadeNumber_divides : (He.Fa.meth "MadeNumber" "divides") ∈ fa := List.mem_of_getElem? (i := 56) rfl
theorem q_meth_MadeNumber_raised : (He.Fa.meth "MadeNumber" "raised") ∈ fa := List.mem_of_getElem? (i := 57) rfl
theorem q_meth_MadeNumber_over : (He.Fa.meth "MadeNumber" "over") ∈ fa := List.mem_of_getElem? (i := 58) rfl
theorem q_meth_MadeNumber___eq__ : (He.Fa.meth "MadeNumber" "__eq__") ∈ fa := List.mem_of_getElem? (i := 59) rfl
theorem q_meth_MadeNumber___len__ : (He.Fa.meth "MadeNumber" "__len__") ∈ fa := List.mem_of_getElem? (i := 60) rfl
def cs : List Str := ["Number", "MadeNumber"]
def ex (K : PySem.W.Frag) : Bool := famB K cs && isaB K cs "Number" && cs.all fun x => lacksB K (He.ga K x) "__rmul__" && lacksB K (He.ga K x) "__rand__" && rorsB K (He.ga K x)
abbrev R : PySem.W.OpenRow := PySem.W.OpenLaw.row PySem.Challenge.rw_timesalone_k05_whole_rules_of_multiplica
abbrev hk : PySem.W.Hook := hookX 4 fa fn ex
def ob (s : PySem.W.SharedT) : AlX := obsX 4 fa fn ex (HandSHeadRun.getT s)
theorem ob_eq (s : PySem.W.SharedT) : ob s = hk.obs s.abs := obsX_eq (HandSHeadRun.getT_eq s)
def loose : List PySem.Str := (["_wall", "__name__", "TimesError", "InvalidNumber", "NotDivisible", "MOST_PRIME", "MOST_DIGITS", "DIGITS", "is_integer", "is_prime", "is_known_prime", "fresh_primes", "digits_in", "Number", "MadeNumber", "number_of", "product", "_law_bag", "_law_made", "_law_primes", "_law_take", "_law_of", "_law_some_powers"] : List PySem.Str)
theorem run (w : World) : HandSHeadRun.RunEq R (PySem.W.view R.prog [25]) hk ob 20000 loose w := by
  intro os
  kernel_rfl
end K05

set_option Elab.async false
set_option linter.all false
set_option maxRecDepth 100000
set_option maxHeartbeats 8000000
namespace K05
open PySem PySem.Spec PyProof.Rows L2 RL NM
section
variable {P : Program} {w : World} {K : PySem.W.Frag} {mg : Str → Option Value} {base : Heap}
theorem sc_is_integer : FnScope ["value"] ["value"] (defScope s_is_integer) := ⟨rfl, rfl, rfl, by decide +kernel, rfl, by decide +kernel, by decide +kernel⟩
theorem f_is_integer (T : Tx fa fn ex K mg) : FnG P w K mg base 1 "is_integer" ["value"] (spG (fun i : Int => [intT i]) fun _ => blT true) := by
  refine T.fn d_is_integer i_is_integer "is_integer" rfl q_glo_is_integer rfl (fun _ _ _ _ _ _ us hl => match us, hl with | [_], _ => rfl) fun f fd F => ?_
  refine fn_G F sc_is_integer (fun _ => rfl) fun i cdv Ar outer s H E hr nd D hD _ => ?_
  refine b_ret (g_and2 (k := true) (l := true) (g_isi (v := .int i) (n := "int") (g_var 0) (fun v H h => by have h' : v = .int i := h; subst h'; exact .base (.int i)) (T.free _ q_free_isinstance) (T.free _ q_free_int) (n' := "int") (by decide +kernel) (by decide +kernel))
    fun _ => (g_not (g_isi (v := .int i) (n := "int") (r := false) (g_var 0) (fun v H h => by have h' : v = .int i := h; subst h'; exact .base (.int i)) (T.free _ q_free_isinstance) (T.free _ q_free_bool) (n' := "bool") (by decide +kernel) (by decide +kernel)))) hD
theorem sc_is_prime : FnScope ["value", "divisor"] ["value"] (defScope s_is_prime) := ⟨rfl, rfl, rfl, by decide +kernel, rfl, by decide +kernel, by decide +kernel⟩
theorem f_is_prime (T : Tx fa fn ex K mg) : FnG P w K mg base 1 "is_prime" ["value"] (spG (fun z : { n : Int // n < 2 ^ 60 } => [intT z.1]) fun z => blT (isPB z.1)) := by
  refine T.fn d_is_prime i_is_prime "is_prime" rfl q_glo_is_prime rfl (fun _ _ _ _ _ _ us hl => match us, hl with | [_], _ => rfl) fun f fd F => ?_
  refine fn_G F sc_is_prime (fun _ => rfl) fun z cdv Ar outer s H E hr nd D hD _ => ?_
  obtain ⟨n, hn⟩ := z
  refine b_if (gt_lt (g_var 0) g_int) (fun h => ?_) fun h => ?_
  · refine b_ret g_bl fun v H' e hv => hD v H' e ?_
    have : isPB n = false := isPB_small (by simpa using h)
    show v = _
    rw [this]; exact hv
  · refine b_nil fun σ H1 e1 t1 => Bd.nx (Γ := [some (intT n), none]) ?_ σ H1 e1 t1
    have h2 : 2 ≤ n := by simpa using h
    refine b_asg 1 g_int ?_
    refine b_while (fun d : Int => [some (intT n), some (intT d)]) (fun d => 2 ≤ d ∧ d ≤ n + 2 ∧ ∀ c : Int, 2 ≤ c → c < d → n % c ≠ 0) (fun d => (n + 3 - d).toNat) 2 rfl ⟨by decide, by omega, fun c a b => by omega⟩ fun d ⟨d1, d2, d3⟩ => ?_
    refine ⟨_, gt_le (g_mul (n := 64) (k := 64) (g_var 1) (g_var 1) (by omega) (by omega)) (g_var 0), fun hk => ?_, fun hk => ?_⟩
    · have hd : d * d ≤ n := by simpa using hk
      have hdn : d ≤ n := by
        have : d * 1 ≤ d * d := Int.mul_le_mul_of_nonneg_left (by omega) (by omega)
        omega
      refine b_if (gt_eqI (g_mod (g_var 0) (g_var 1) (by omega)) g_int) (fun h => ?_) fun h => ?_
      · refine b_ret g_bl fun v H' e hv => hD v H' e ?_
        show v = _
        rw [isPB_hit d1 hd (by simpa using h)]; exact hv
      · refine b_nil fun σ H1 e1 t1 => Bd.nx ?_ σ H1 e1 t1
        refine b_augI (n := d) (i := 1) rfl g_int (wturn (d + 1) ⟨by omega, by omega, fun c a b => ?_⟩ (by omega) rfl)
        by_cases hc : c < d
        · exact d3 c a hc
        · have : c = d := by omega
          subst this
          simpa using h
    · refine b_ret g_bl fun v H' e hv => hD v H' e ?_
      show v = _
      rw [isPB_none h2 d1 (by simpa using hk) d3]; exact hv
theorem sc_is_known_prime : FnScope ["value"] ["value"] (defScope s_is_known_prime) := ⟨rfl, rfl, rfl, by decide +kernel, rfl, by decide +kernel, by decide +kernel⟩
theorem f_is_known_prime (T : Tx fa fn ex K mg) : FnG P w K mg base 2 "is_known_prime" ["value"] (spG (fun i : Int => [intT i]) fun i => blT (decide (i < 1000) && isPB i)) := by
  have F1 : FnG P w K mg base 1 "is_integer" ["value"] _ := f_is_integer T
  have F2 : FnG P w K mg base 1 "is_prime" ["value"] _ := f_is_prime T
  obtain ⟨tk, hM⟩ := T.int "MOST_PRIME" 1000 q_int_MOST_PRIME
  refine T.fn d_is_known_prime i_is_known_prime "is_known_prime" rfl q_glo_is_known_prime rfl (fun _ _ _ _ _ _ us hl => match us, hl with | [_], _ => rfl) fun f fd F => ?_
  refine fn_G F sc_is_known_prime (fun _ => rfl) fun i cdv Ar outer s H E hr nd D hD _ => ?_
  refine b_ret (g_and3 (k := true) (l := decide (i < 1000)) (n := isPB i) ?_ (fun _ => g_lt (g_var 0) (g_glob (v := .int 1000) hM ⟨_, rfl⟩)) fun _ h => ?_) hD
  · refine g_call F1 hr i ?_
    exact ga_cons (g_var 0) ga_nil
  have h' : i < 1000 := by simpa using h
  exact g_call F2 (hr.mono (by decide)) ⟨i, by omega⟩ (ga_cons (g_var 0) ga_nil)
/-! Number -/
abbrev NT (K : PySem.W.Frag) := numT K
theorem cls_num (T : Tx fa fn ex K mg) {C : Addr} (h : NamesC K numCs C) : Cls K C ∧ NoAttr K C "powers" := by
  obtain ⟨x, hx, rfl⟩ := h
  simp only [numCs, List.mem_cons, List.not_mem_nil, or_false] at hx
  rcases hx with rfl | rfl
  · exact ⟨He.cls_ok (T.fact _ q_cls_Number), He.noat_ok (T.fact _ q_noat_Number_powers)⟩
  · exact ⟨He.cls_ok (T.fact _ q_cls_MadeNumber), He.noat_ok (T.fact _ q_noat_MadeNumber_powers)⟩
theorem fld_powers (T : Tx fa fn ex K mg) {k : NK} : ∀ v H, numT K k v H → ∃ a C dx fs w, v = .ref a ∧ H a = some (.ins C dx fs) ∧ Cls K C ∧ NoAttr K C "powers" ∧ fs.lookup ("powers" : Str) = some w ∧ dicT (kvN k) w H := by
  rintro v H ⟨a, C, dx, p, o, h1, h2, h3, h4⟩
  obtain ⟨c1, c2⟩ := cls_num T h3
  exact ⟨a, C, dx, _, .ref p, h1, h2, c1, c2, by rw [List.lookup_cons]; simp, ⟨p, o, rfl, h4⟩⟩
theorem mt_pairs (T : Tx fa fn ex K mg) {ps : List Str} {k : Nat} {sp : Sp} (hl : ps.length = 1) (hb : ∀ (kV doc pm : Value) (an : Option Addr) (cdv ct : Value) (us : List Value), us.length = ps.length → bindArgs (PySem.W.fnOf "pairs" "Number.pairs" (defArgs s_Number_pairs) (defBody s_Number_pairs) (defScope s_Number_pairs) .none kV doc pm an cdv ct) ⟨us, []⟩ = pure (ps.zip us))
    (ok : ∀ f fd kws, FunD K "pairs" "Number.pairs" (defArgs s_Number_pairs) (defBody s_Number_pairs) (defScope s_Number_pairs) [] kws f fd → FnOk P w K mg base CX0 k f fd ps sp) : MtG P w K mg base k (NamesC K numCs) "pairs" ps sp := by
  refine T.mt numCs "pairs" (fun x => if x = "Number" then d_Number_pairs else d_MadeNumber_pairs) ?_ ?_ ?_
  · intro x hx
    simp only [numCs, List.mem_cons, List.not_mem_nil, or_false] at hx
    rcases hx with rfl | rfl
    · exact ⟨i_Number_pairs, rfl, rfl, q_cls_Number, q_meth_Number_pairs⟩
    · exact ⟨i_MadeNumber_pairs, rfl, rfl, q_cls_MadeNumber, q_meth_MadeNumber_pairs⟩
  · intro x hx
    simp only [numCs, List.mem_cons, List.not_mem_nil, or_false] at hx
    rcases hx with rfl | rfl
    · exact hb
    · exact hb
  · intro x hx f fd F
    simp only [numCs, List.mem_cons, List.not_mem_nil, or_false] at hx
    rcases hx with rfl | rfl
    · exact ok _ _ _ F
    · exact ok _ _ _ F
theorem mt_primes (T : Tx fa fn ex K mg) {ps : List Str} {k : Nat} {sp : Sp} (hl : ps.length = 1) (hb : ∀ (kV doc pm : Value) (an : Option Addr) (cdv ct : Value) (us : List Value), us.length = ps.length → bindArgs (PySem.W.fnOf "primes" "Number.primes" (defArgs s_Number_primes) (defBody s_Number_primes) (defScope s_Number_primes) .none kV doc pm an cdv ct) ⟨us, []⟩ = pure (ps.zip us))
    (ok : ∀ f fd kws, FunD K "primes" "Number.primes" (defArgs s_Number_primes) (defBody s_Number_primes) (defScope s_Number_primes) [] kws f fd → FnOk P w K mg base CX0 k f fd ps sp) : MtG P w K mg base k (NamesC K numCs) "primes" ps sp := by
  refine T.mt numCs "primes" (fun x => if x = "Number" then d_Number_primes else d_MadeNumber_primes) ?_ ?_ ?_
  · intro x hx
    simp only [numCs, List.mem_cons, List.not_mem_nil, or_false] at hx
    rcases hx with rfl | rfl
    · exact ⟨i_Number_primes, rfl, rfl, q_cls_Number, q_meth_Number_primes⟩
    · exact ⟨i_MadeNumber_primes, rfl, rfl, q_cls_MadeNumber, q_meth_MadeNumber_primes⟩
  · intro x hx
    simp only [numCs, List.mem_cons, List.not_mem_nil, or_false] at hx
    rcases hx with rfl | rfl
    · exact hb
    · exact hb
  · intro x hx f fd F
    simp only [numCs, List.mem_cons, List.not_mem_nil, or_false] at hx
    rcases hx with rfl | rfl
    · exact ok _ _ _ F
    · exact ok _ _ _ F
theorem mt_exponent (T : Tx fa fn ex K mg) {ps : List Str} {k : Nat} {sp : Sp} (hl : ps.length = 2) (hb : ∀ (kV doc pm : Value) (an : Option Addr) (cdv ct : Value) (us : List Value), us.length = ps.length → bindArgs (PySem.W.fnOf "exponent" "Number.exponent" (defArgs s_Number_exponent) (defBody s_Number_exponent) (defScope s_Number_exponent) .none kV doc pm an cdv ct) ⟨us, []⟩ = pure (ps.zip us))
    (ok : ∀ f fd kws, FunD K "exponent" "Number.exponent" (defArgs s_Number_exponent) (defBody s_Number_exponent) (defScope s_Number_exponent) [] kws f fd → FnOk P w K mg base CX0 k f fd ps sp) : MtG P w K mg base k (NamesC K numCs) "exponent" ps sp := by
  refine T.mt numCs "exponent" (fun x => if x = "Number" then d_Number_exponent else d_MadeNumber_exponent) ?_ ?_ ?_
  · intro x hx
    simp only [numCs, List.mem_cons, List.not_mem_nil, or_false] at hx
    rcases hx with rfl | rfl
    · exact ⟨i_Number_exponent, rfl, rfl, q_cls_Number, q_meth_Number_exponent⟩
    · exact ⟨i_MadeNumber_exponent, rfl, rfl, q_cls_MadeNumber, q_meth_MadeNumber_exponent⟩
  · intro x hx
    simp only [numCs, List.mem_cons, List.not_mem_nil, or_false] at hx
    rcases hx with rfl | rfl
    · exact hb
    · exact hb
  · intro x hx f fd F
    simp only [numCs, List.mem_cons, List.not_mem_nil, or_false] at hx
    rcases hx with rfl | rfl
    · exact ok _ _ _ F
    · exact ok _ _ _ F
theorem mt_joined (T : Tx fa fn ex K mg) {ps : List Str} {k : Nat} {sp : Sp} (hl : ps.length = 2) (hb : ∀ (kV doc pm : Value) (an : Option Addr) (cdv ct : Value) (us : List Value), us.length = ps.length → bindArgs (PySem.W.fnOf "joined" "Number.joined" (defArgs s_Number_joined) (defBody s_Number_joined) (defScope s_Number_joined) .none kV doc pm an cdv ct) ⟨us, []⟩ = pure (ps.zip us))
    (ok : ∀ f fd kws, FunD K "joined" "Number.joined" (defArgs s_Number_joined) (defBody s_Number_joined) (defScope s_Number_joined) [] kws f fd → FnOk P w K mg base CX0 k f fd ps sp) : MtG P w K mg base k (NamesC K numCs) "joined" ps sp := by
  refine T.mt numCs "joined" (fun x => if x = "Number" then d_Number_joined else d_MadeNumber_joined) ?_ ?_ ?_
  · intro x hx
    simp only [numCs, List.mem_cons, List.not_mem_nil, or_false] at hx
    rcases hx with rfl | rfl
    · exact ⟨i_Number_joined, rfl, rfl, q_cls_Number, q_meth_Number_joined⟩
    · exact ⟨i_MadeNumber_joined, rfl, rfl, q_cls_MadeNumber, q_meth_MadeNumber_joined⟩
  · intro x hx
    simp only [numCs, List.mem_cons, List.not_mem_nil, or_false] at hx
    rcases hx with rfl | rfl
    · exact hb
    · exact hb
  · intro x hx f fd F
    simp only [numCs, List.mem_cons, List.not_mem_nil, or_false] at hx
    rcases hx with rfl | rfl
    · exact ok _ _ _ F
    · exact ok _ _ _ F
theorem mt___mul__ (T : Tx fa fn ex K mg) {ps : List Str} {k : Nat} {sp : Sp} (hl : ps.length = 2) (hb : ∀ (kV doc pm : Value) (an : Option Addr) (cdv ct : Value) (us : List Value), us.length = ps.length → bindArgs (PySem.W.fnOf "__mul__" "Number.__mul__" (defArgs s_Number___mul__) (defBody s_Number___mul__) (defScope s_Number___mul__) .none kV doc pm an cdv ct) ⟨us, []⟩ = pure (ps.zip us))
    (ok : ∀ f fd kws, FunD K "__mul__" "Number.__mul__" (defArgs s_Number___mul__) (defBody s_Number___mul__) (defScope s_Number___mul__) [] kws f fd → FnOk P w K mg base CX0 k f fd ps sp) : MtG P w K mg base k (NamesC K numCs) "__mul__" ps sp := by
  refine T.mt numCs "__mul__" (fun x => if x = "Number" then d_Number___mul__ else d_MadeNumber___mul__) ?_ ?_ ?_
  · intro x hx
    simp only [numCs, List.mem_cons, List.not_mem_nil, or_false] at hx
    rcases hx with rfl | rfl
    · exact ⟨i_Number___mul__, rfl, rfl, q_cls_Number, q_meth_Number___mul__⟩
    · exact ⟨i_MadeNumber___mul__, rfl, rfl, q_cls_MadeNumber, q_meth_MadeNumber___mul__⟩
  · intro x hx
    simp only [numCs, List.mem_cons, List.not_mem_nil, or_false] at hx
    rcases hx with rfl | rfl
    · exact hb
    · exact hb
  · intro x hx f fd F
    simp only [numCs, List.mem_cons, List.not_mem_nil, or_false] at hx
    rcases hx with rfl | rfl
    · exact ok _ _ _ F
    · exact ok _ _ _ F
theorem mt___and__ (T : Tx fa fn ex K mg) {ps : List Str} {k : Nat} {sp : Sp} (hl : ps.length = 2) (hb : ∀ (kV doc pm : Value) (an : Option Addr) (cdv ct : Value) (us : List Value), us.length = ps.length → bindArgs (PySem.W.fnOf "__and__" "Number.__and__" (defArgs s_Number___and__) (defBody s_Number___and__) (defScope s_Number___and__) .none kV doc pm an cdv ct) ⟨us, []⟩ = pure (ps.zip us))
    (ok : ∀ f fd kws, FunD K "__and__" "Number.__and__" (defArgs s_Number___and__) (defBody s_Number___and__) (defScope s_Number___and__) [] kws f fd → FnOk P w K mg base CX0 k f fd ps sp) : MtG P w K mg base k (NamesC K numCs) "__and__" ps sp := by
  refine T.mt numCs "__and__" (fun x => if x = "Number" then d_Number___and__ else d_MadeNumber___and__) ?_ ?_ ?_
  · intro x hx
    simp only [numCs, List.mem_cons, List.not_mem_nil, or_false] at hx
    rcases hx with rfl | rfl
    · exact ⟨i_Number___and__, rfl, rfl, q_cls_Number, q_meth_Number___and__⟩
    · exact ⟨i_MadeNumber___and__, rfl, rfl, q_cls_MadeNumber, q_meth_MadeNumber___and__⟩
  · intro x hx
    simp only [numCs, List.mem_cons, List.not_mem_nil, or_false] at hx
    rcases hx with rfl | rfl
    · exact hb
    · exact hb
  · intro x hx f fd F
    simp only [numCs, List.mem_cons, List.not_mem_nil, or_false] at hx
    rcases hx with rfl | rfl
    · exact ok _ _ _ F
    · exact ok _ _ _ F
theorem mt___or__ (T : Tx fa fn ex K mg) {ps : List Str} {k : Nat} {sp : Sp} (hl : ps.length = 2) (hb : ∀ (kV doc pm : Value) (an : Option Addr) (cdv ct : Value) (us : List Value), us.length = ps.length → bindArgs (PySem.W.fnOf "__or__" "Number.__or__" (defArgs s_Number___or__) (defBody s_Number___or__) (defScope s_Number___or__) .none kV doc pm an cdv ct) ⟨us, []⟩ = pure (ps.zip us))
    (ok : ∀ f fd kws, FunD K "__or__" "Number.__or__" (defArgs s_Number___or__) (defBody s_Number___or__) (defScope s_Number___or__) [] kws f fd → FnOk P w K mg base CX0 k f fd ps sp) : MtG P w K mg base k (NamesC K numCs) "__or__" ps sp := by
  refine T.mt numCs "__or__" (fun x => if x = "Number" then d_Number___or__ else d_MadeNumber___or__) ?_ ?_ ?_
  · intro x hx
    simp only [numCs, List.mem_cons, List.not_mem_nil, or_false] at hx
    rcases hx with rfl | rfl
    · exact ⟨i_Number___or__, rfl, rfl, q_cls_Number, q_meth_Number___or__⟩
    · exact ⟨i_MadeNumber___or__, rfl, rfl, q_cls_MadeNumber, q_meth_MadeNumber___or__⟩
  · intro x hx
    simp only [numCs, List.mem_cons, List.not_mem_nil, or_false] at hx
    rcases hx with rfl | rfl
    · exact hb
    · exact hb
  · intro x hx f fd F
    simp only [numCs, List.mem_cons, List.not_mem_nil, or_false] at hx
    rcases hx with rfl | rfl
    · exact ok _ _ _ F
    · exact ok _ _ _ F
theorem mt_divides (T : Tx fa fn ex K mg) {ps : List Str} {k : Nat} {sp : Sp} (hl : ps.length = 2) (hb : ∀ (kV doc pm : Value) (an : Option Addr) (cdv ct : Value) (us : List Value), us.length = ps.length → bindArgs (PySem.W.fnOf "divides" "Number.divides" (defArgs s_Number_divides) (defBody s_Number_divides) (defScope s_Number_divides) .none kV doc pm an cdv ct) ⟨us, []⟩ = pure (ps.zip us))
    (ok : ∀ f fd kws, FunD K "divides" "Number.divides" (defArgs s_Number_divides) (defBody s_Number_divides) (defScope s_Number_divides) [] kws f fd → FnOk P w K mg base CX0 k f fd ps sp) : MtG P w K mg base k (NamesC K numCs) "divides" ps sp := by
  refine T.mt numCs "divides" (fun x => if x = "Number" then d_Number_divides else d_MadeNumber_divides) ?_ ?_ ?_
  · intro x hx
    simp only [numCs, List.mem_cons, List.not_mem_nil, or_false] at hx
    rcases hx with rfl | rfl
    · exact ⟨i_Number_divides, rfl, rfl, q_cls_Number, q_meth_Number_divides⟩
    · exact ⟨i_MadeNumber_divides, rfl, rfl, q_cls_MadeNumber, q_meth_MadeNumber_divides⟩
  · intro x hx
    simp only [numCs, List.mem_cons, List.not_mem_nil, or_false] at hx
    rcases hx with rfl | rfl
    · exact hb
    · exact hb
  · intro x hx f fd F
    simp only [numCs, List.mem_cons, List.not_mem_nil, or_false] at hx
    rcases hx with rfl | rfl
    · exact ok _ _ _ F
    · exact ok _ _ _ F
theorem mt_raised (T : Tx fa fn ex K mg) {ps : List Str} {k : Nat} {sp : Sp} (hl : ps.length = 2) (hb : ∀ (kV doc pm : Value) (an : Option Addr) (cdv ct : Value) (us : List Value), us.length = ps.length → bindArgs (PySem.W.fnOf "raised" "Number.raised" (defArgs s_Number_raised) (defBody s_Number_raised) (defScope s_Number_raised) .none kV doc pm an cdv ct) ⟨us, []⟩ = pure (ps.zip us))
    (ok : ∀ f fd kws, FunD K "raised" "Number.raised" (defArgs s_Number_raised) (defBody s_Number_raised) (defScope s_Number_raised) [] kws f fd → FnOk P w K mg base CX0 k f fd ps sp) : MtG P w K mg base k (NamesC K numCs) "raised" ps sp := by
  refine T.mt numCs "raised" (fun x => if x = "Number" then d_Number_raised else d_MadeNumber_raised) ?_ ?_ ?_
  · intro x hx
    simp only [numCs, List.mem_cons, List.not_mem_nil, or_false] at hx
    rcases hx with rfl | rfl
    · exact ⟨i_Number_raised, rfl, rfl, q_cls_Number, q_meth_Number_raised⟩
    · exact ⟨i_MadeNumber_raised, rfl, rfl, q_cls_MadeNumber, q_meth_MadeNumber_raised⟩
  · intro x hx
    simp only [numCs, List.mem_cons, List.not_mem_nil, or_false] at hx
    rcases hx with rfl | rfl
    · exact hb
    · exact hb
  · intro x hx f fd F
    simp only [numCs, List.mem_cons, List.not_mem_nil, or_false] at hx
    rcases hx with rfl | rfl
    · exact ok _ _ _ F
    · exact ok _ _ _ F
theorem mt_over (T : Tx fa fn ex K mg) {ps : List Str} {k : Nat} {sp : Sp} (hl : ps.length = 2) (hb : ∀ (kV doc pm : Value) (an : Option Addr) (cdv ct : Value) (us : List Value), us.length = ps.length → bindArgs (PySem.W.fnOf "over" "Number.over" (defArgs s_Number_over) (defBody s_Number_over) (defScope s_Number_over) .none kV doc pm an cdv ct) ⟨us, []⟩ = pure (ps.zip us))
    (ok : ∀ f fd kws, FunD K "over" "Number.over" (defArgs s_Number_over) (defBody s_Number_over) (defScope s_Number_over) [] kws f fd → FnOk P w K mg base CX0 k f fd ps sp) : MtG P w K mg base k (NamesC K numCs) "over" ps sp := by
  refine T.mt numCs "over" (fun x => if x = "Number" then d_Number_over else d_MadeNumber_over) ?_ ?_ ?_
  · intro x hx
    simp only [numCs, List.mem_cons, List.not_mem_nil, or_false] at hx
    rcases hx with rfl | rfl
    · exact ⟨i_Number_over, rfl, rfl, q_cls_Number, q_meth_Number_over⟩
    · exact ⟨i_MadeNumber_over, rfl, rfl, q_cls_MadeNumber, q_meth_MadeNumber_over⟩
  · intro x hx
    simp only [numCs, List.mem_cons, List.not_mem_nil, or_false] at hx
    rcases hx with rfl | rfl
    · exact hb
    · exact hb
  · intro x hx f fd F
    simp only [numCs, List.mem_cons, List.not_mem_nil, or_false] at hx
    rcases hx with rfl | rfl
    · exact ok _ _ _ F
    · exact ok _ _ _ F
theorem mt___eq__ (T : Tx fa fn ex K mg) {ps : List Str} {k : Nat} {sp : Sp} (hl : ps.length = 2) (hb : ∀ (kV doc pm : Value) (an : Option Addr) (cdv ct : Value) (us : List Value), us.length = ps.length → bindArgs (PySem.W.fnOf "__eq__" "Number.__eq__" (defArgs s_Number___eq__) (defBody s_Number___eq__) (defScope s_Number___eq__) .none kV doc pm an cdv ct) ⟨us, []⟩ = pure (ps.zip us))
    (ok : ∀ f fd kws, FunD K "__eq__" "Number.__eq__" (defArgs s_Number___eq__) (defBody s_Number___eq__) (defScope s_Number___eq__) [] kws f fd → FnOk P w K mg base CX0 k f fd ps sp) : MtG P w K mg base k (NamesC K numCs) "__eq__" ps sp := by
  refine T.mt numCs "__eq__" (fun x => if x = "Number" then d_Number___eq__ else d_MadeNumber___eq__) ?_ ?_ ?_
  · intro x hx
    simp only [numCs, List.mem_cons, List.not_mem_nil, or_false] at hx
    rcases hx with rfl | rfl
    · exact ⟨i_Number___eq__, rfl, rfl, q_cls_Number, q_meth_Number___eq__⟩
    · exact ⟨i_MadeNumber___eq__, rfl, rfl, q_cls_MadeNumber, q_meth_MadeNumber___eq__⟩
  · intro x hx
    simp only [numCs, List.mem_cons, List.not_mem_nil, or_false] at hx
    rcases hx with rfl | rfl
    · exact hb
    · exact hb
  · intro x hx f fd F
    simp only [numCs, List.mem_cons, List.not_mem_nil, or_false] at hx
    rcases hx with rfl | rfl
    · exact ok _ _ _ F
    · exact ok _ _ _ F
theorem mt___len__ (T : Tx fa fn ex K mg) {ps : List Str} {k : Nat} {sp : Sp} (hl : ps.length = 1) (hb : ∀ (kV doc pm : Value) (an : Option Addr) (cdv ct : Value) (us : List Value), us.length = ps.length → bindArgs (PySem.W.fnOf "__len__" "Number.__len__" (defArgs s_Number___len__) (defBody s_Number___len__) (defScope s_Number___len__) .none kV doc pm an cdv ct) ⟨us, []⟩ = pure (ps.zip us))
    (ok : ∀ f fd kws, FunD K "__len__" "Number.__len__" (defArgs s_Number___len__) (defBody s_Number___len__) (defScope s_Number___len__) [] kws f fd → FnOk P w K mg base CX0 k f fd ps sp) : MtG P w K mg base k (NamesC K numCs) "__len__" ps sp := by
  refine T.mt numCs "__len__" (fun x => if x = "Number" then d_Number___len__ else d_MadeNumber___len__) ?_ ?_ ?_
  · intro x hx
    simp only [numCs, List.mem_cons, List.not_mem_nil, or_false] at hx
    rcases hx with rfl | rfl
    · exact ⟨i_Number___len__, rfl, rfl, q_cls_Number, q_meth_Number___len__⟩
    · exact ⟨i_MadeNumber___len__, rfl, rfl, q_cls_MadeNumber, q_meth_MadeNumber___len__⟩
  · intro x hx
    simp only [numCs, List.mem_cons, List.not_mem_nil, or_false] at hx
    rcases hx with rfl | rfl
    · exact hb
    · exact hb
  · intro x hx f fd F
    simp only [numCs, List.mem_cons, List.not_mem_nil, or_false] at hx
    rcases hx with rfl | rfl
    · exact ok _ _ _ F
    · exact ok _ _ _ F
theorem sc_exponent : FnScope ["self", "prime"] ["self", "prime"] (defScope s_Number_exponent) := ⟨rfl, rfl, rfl, by decide +kernel, rfl, by decide +kernel, by decide +kernel⟩
theorem m_exponent (T : Tx fa fn ex K mg) : MtG P w K mg base 1 (NamesC K numCs) "exponent" ["self", "prime"] (spG (fun z : NK × Int => [numT K z.1, intT z.2]) fun z => intT (look z.1 z.2)) := by
  refine mt_exponent T rfl (fun _ _ _ _ _ _ us hl => match us, hl with | [_, _], _ => rfl) fun f fd kws F => ?_
  refine fn_G F sc_exponent (fun _ => rfl) fun z cdv Ar outer s H E hr nd D hD _ => ?_
  refine b_ret ((g_get2 (k := Sum.inl z.2) (y := .int 0) (hu_of hr) (g_fld (g_var 0) (fld_powers T)) (g_var 1) g_int ⟨rfl, rfl, rfl, rfl⟩).is ?_) hD
  rw [kvN_val]
theorem sc_primes : FnScope ["self"] ["self"] (defScope s_Number_primes) := ⟨rfl, rfl, rfl, by decide +kernel, rfl, by decide +kernel, by decide +kernel⟩
theorem m_primes (T : Tx fa fn ex K mg) : MtG P w K mg base 1 (NamesC K numCs) "primes" ["self"] (spG (fun z : NK => [numT K z]) fun z => lstT ((z.map (·.1)).map fun p => intT p)) := by
  refine mt_primes T rfl (fun _ _ _ _ _ _ us hl => match us, hl with | [_], _ => rfl) fun f fd kws F => ?_
  refine fn_G F sc_primes (fun _ => rfl) fun z cdv Ar outer s H E hr nd D hD _ => ?_
  refine b_ret ((g_listD (g_fld (g_var 0) (fld_powers T)) (T.free _ q_free_list)).is ?_) hD
  unfold kvN
  rw [List.map_map, List.map_map]
  rfl
theorem sc_joined : FnScope ["self", "other"] ["self", "other"] (defScope s_Number_joined) := ⟨rfl, rfl, rfl, by decide +kernel, rfl, by decide +kernel, by decide +kernel⟩
/-- two numbers of few primes -/
abbrev N2 := { z : NK × NK // z.1.length + z.2.length < 64 }
theorem m_joined (T : Tx fa fn ex K mg) : MtG P w K mg base 2 (NamesC K numCs) "joined" ["self", "other"] (spG (fun z : N2 => [numT K z.1.1, numT K z.1.2]) fun z => lstT ((joinK z.1.1 z.1.2).map fun p => intT p)) := by
  have F1 : MtG P w K mg base 1 (NamesC K numCs) "primes" ["self"] _ := m_primes T
  refine mt_joined T rfl (fun _ _ _ _ _ _ us hl => match us, hl with | [_, _], _ => rfl) fun f fd kws F => ?_
  refine fn_G F sc_joined (fun _ => rfl) fun z cdv Ar outer s H E hr nd D hD _ => ?_
  obtain ⟨⟨a, b⟩, hz⟩ := z
  have hz' : a.length + b.length < 64 := hz
  refine b_ret (g_sortedSet (ns := a.map (·.1) ++ b.map (·.1)) ?_ (T.free _ q_free_sorted) (T.free _ q_free_set) (by simp; omega)) hD
  refine (g_cat (g_meth0 F1 hr a (g_var 0) fun v H h => num_of (by decide +kernel) h) (g_meth0 F1 hr b (g_var 1) fun v H h => num_of (by decide +kernel) h) (by simp; exact Nat.le_trans (Nat.le_of_lt hz') (by decide))).is ?_
  rw [List.map_append]
end
end K05

set_option Elab.async false
set_option linter.all false
set_option maxRecDepth 100000
set_option maxHeartbeats 8000000
namespace K05
open PySem PySem.Spec PyProof.Rows L2 RL NM
section
variable {P : Program} {w : World} {K : PySem.W.Frag} {mg : Str → Option Value} {base : Heap}
/-- self.powers = table -/
def spMade : Sp := fun vs H Q _ => ∃ (p C dx : Addr) (v : V), vs = [.ref p, v] ∧ H p = some (.ins C dx []) ∧ NamesC K numCs C ∧ Q .non (upd H p (.ins C dx [("powers", v)]))
theorem sc_made : FnScope ["self", "table"] ["self", "table"] (defScope s_MadeNumber___init__) := ⟨rfl, rfl, rfl, by decide +kernel, rfl, by decide +kernel, by decide +kernel⟩
theorem ok_made (T : Tx fa fn ex K mg) {f : Addr} {fd : FuncData} {kws : List (Str × V)} (F : FunD K "__init__" "MadeNumber.__init__" (defArgs s_MadeNumber___init__) (defBody s_MadeNumber___init__) (defScope s_MadeNumber___init__) [] kws f fd) : FnOk P w K mg base CX0 1 f fd ["self", "table"] (spMade (K := K)) := by
  refine fn_sp F sc_made (fun vs H Q E h => ?_) fun cdv A outer s H vs Q E hr h => ?_
  · obtain ⟨p, C, dx, v, rfl, _⟩ := h
    rfl
  · obtain ⟨p, C, dx, v, rfl, hp, hC, q⟩ := h
    refine toB (pss_one (ps_fld (pv 0) (pv 1) rfl)) ?_
    exact ⟨v, rfl, _, rfl, p, C, dx, [], rfl, hp, (cls_num T hC).1, (cls_num T hC).2, by decide, q⟩
theorem mk_made (T : Tx fa fn ex K mg) : ∃ f fd, Mk K (He.ga K "MadeNumber") f ∧ FnOk P w K mg base CX0 1 f fd ["self", "table"] (spMade (K := K)) ∧ Binds K fd ["self", "table"] [] := by
  obtain ⟨fd, F⟩ := T.def_ d_MadeNumber___init__ i_MadeNumber___init__
  have M := He.mkr_ok (T.fact _ q_mkr_MadeNumber)
  have e0 : d_MadeNumber___init__.dvs K = [] := rfl
  rw [e0] at F
  exact ⟨_, fd, M, ok_made T F, F.bindsN fun _ _ _ _ _ _ us hl => match us, hl with | [_, _], _ => rfl⟩
theorem g_made (T : Tx fa fn ex K mg) {X : Cx} (hX : X.K = K ∧ X.mg = mg) {Γ : RL.Ctx} {e : Expr} {k : NK} {p pos : Pos} (he : G X Γ e (dicT (kvN k))) (hr : Room 2 X.A) (hg : Gl X "MadeNumber" := by rfl) (hs : starEach [e] X.env = (false, eval e X.env) :: starEach [] X.env := by rfl) :
    G X Γ (.Call (.Name "MadeNumber" p) [e] [] pos) (numT K k) := fun σ H t Q q => by
  obtain ⟨rfl, rfl⟩ := hX
  obtain ⟨f, fd, M, F, B⟩ := mk_made (P := X.prog) (w := X.w) (base := X.base) T
  refine toE (pe_make M F hr hg (T.glo _ q_glo_MadeNumber) B .nil pass0 (pa_cons (pe e) pa_nil hs) (he := hs)) (he σ H t _ fun v H1 e1 ⟨d, o, ev, hd⟩ => ?_)
  subst ev
  intro x dx nx ndx nex
  refine ⟨x, _, dx, .ref d, rfl, upd_same, ⟨_, by simp [numCs], rfl⟩, rfl, ?_⟩
  rw [upd_upd]
  refine q _ _ ?_ ⟨x, _, dx, d, o, rfl, upd_same, ⟨"MadeNumber", by simp [numCs], rfl⟩, ?_⟩
  · exact (e1.trans (Ex.new ndx)).trans (Ex.new (by rw [upd_ne (Ne.symm nex)]; exact nx))
  · rw [upd_ne (ne_of_none hd nx), upd_ne (ne_of_none hd ndx)]
    exact hd
/-- what a dict comprehension with a test keeps -/
theorem kept_norm (l : NK) : (((sortU (l.map (·.1))).map fun p => if 0 < look l p then some ((Sum.inl p, V.int (look l p)) : Key × V) else none).filterMap id) = kvN (normK l) := by
  unfold kvN normK
  induction sortU (l.map (·.1)) with
  | nil => rfl
  | cons p r ih =>
    by_cases c : 0 < look l p
    · simp only [List.map_cons, List.filterMap_cons, c, if_true, id]
      rw [ih]
    · simp only [List.map_cons, List.filterMap_cons, c, if_false, id]
      exact ih
theorem kvN_nodup {l : NK} (c : Canon l) : ((kvN l).map (·.1)).Nodup := by
  rw [kvN_keys]
  have : (l.map (·.1)).Nodup := c.nodup
  exact List.Pairwise.map _ (fun a b h z => h (Sum.inl.inj z)) this
theorem sc_number_of : FnScope ["table", "prime"] ["table"] (defScope s_number_of) := ⟨rfl, rfl, rfl, by decide +kernel, rfl, by decide +kernel, by decide +kernel⟩
/-- a table of few different primes -/
abbrev TabK := { l : NK // (l.map (·.1)).Nodup ∧ l.length < 64 }
theorem f_number_of (T : Tx fa fn ex K mg) : FnG P w K mg base 3 "number_of" ["table"] (spG (fun z : TabK => [dicT (kvN z.1)]) fun z => numT K (normK z.1)) := by
  refine T.fn d_number_of i_number_of "number_of" rfl q_glo_number_of rfl (fun _ _ _ _ _ _ us hl => match us, hl with | [_], _ => rfl) fun f fd F => ?_
  refine fn_G F sc_number_of (fun _ => rfl) fun z cdv Ar outer s H E hr nd D hD _ => ?_
  obtain ⟨l, hnd, hlen⟩ := z
  refine b_ret (g_made T ⟨rfl, rfl⟩ ?_ hr) hD
  refine g_dc (Ts := (sortU (l.map (·.1))).map fun z => intT z) (own := [("prime", 1)]) (g := gName 1) ((sortU (l.map (·.1))).map fun p => if 0 < look l p then some ((Sum.inl p, V.int (look l p)) : Key × V) else none)
    ?_ ?_ ?_ ?_ ?_ ?_ own_name ?_ (by rw [kept_norm])
  · exact gi_list (g_sortedD (ks := l.map (·.1)) (g_var 0) (T.free _ q_free_sorted) (kvN_keys l) (by simpa using hlen) (sortU (l.map (·.1))) fun zs hp hs => sortU_perm hp hs hnd)
  · exact blkOk_by rfl
  · exact fun _ _ _ _ _ => pg_name (i := 1) nd rfl (Or.inl rfl)
  · simp
  · rw [List.length_map]
    refine Nat.le_trans (Nat.le_trans (sortU_len _) ?_) (by decide : 64 ≤ sizeLine)
    simpa using Nat.le_of_lt hlen
  · intro i Ty hT
    rw [List.getElem?_map] at hT
    cases hp : (sortU (l.map (·.1)))[i]? with
    | none => rw [hp] at hT; cases hT
    | some p =>
      rw [hp] at hT
      cases hT
      have hmem : p ∈ l.map (·.1) := sortU_mem.mp (List.mem_of_getElem? hp)
      refine ⟨_, tgt_name, ?_⟩
      by_cases c : 0 < look l p
      · refine .inr ⟨Sum.inl p, .int (look l p), by rw [List.getElem?_map, hp]; simp [c], gct_one fun s H C cl fp => ?_, fun s H C cl fp => g_var 1, fun s H C cl fp => ?_⟩
        · exact (gt_gt (g_ixd (k := Sum.inl p) (hu_of hr) (g_var 0) (g_var 1) (kvN_val' hmem)) g_int).is (by simpa using c)
        · exact g_ixd (k := Sum.inl p) (hu_of hr) (g_var 0) (g_var 1) (kvN_val' hmem)
      · refine .inl ⟨by rw [List.getElem?_map, hp]; simp [c], gct_one fun s H C cl fp => ?_⟩
        exact (gt_gt (g_ixd (k := Sum.inl p) (hu_of hr) (g_var 0) (g_var 1) (kvN_val' hmem)) g_int).is (by simpa using c)
  · rw [kept_norm]
    exact kvN_nodup (normK_canon l)
end
end K05

set_option Elab.async false
set_option linter.all false
set_option maxRecDepth 100000
set_option maxHeartbeats 8000000
namespace K05
open PySem PySem.Spec PyProof.Rows L2 RL NM
section
variable {P : Program} {w : World} {K : PySem.W.Frag} {mg : Str → Option Value} {base : Heap}
theorem inl_nodup {ks : List Int} (h : ks.Nodup) : (ks.map (Sum.inl : Int → Key)).Nodup := List.Pairwise.map _ (fun a b h z => h (Sum.inl.inj z)) h
theorem joinK_nodup (a b : NK) : (joinK a b).Nodup := nodup_of_lt (sortU_pw _)
theorem joinK_len (a b : NK) : (joinK a b).length ≤ a.length + b.length := by
  have := sortU_len (a.map (·.1) ++ b.map (·.1))
  rw [List.length_append, List.length_map, List.length_map] at this
  exact this
theorem tab_nodup {ks : List Int} (h : ks.Nodup) (f : Int → Int) : ((ks.map fun p => ((p, f p) : Int × Int)).map (·.1)).Nodup := by
  rw [List.map_map]
  have e : ((fun q : Int × Int => q.1) ∘ fun p => ((p, f p) : Int × Int)) = id := rfl
  rw [e, List.map_id]
  exact h
theorem tab_kv (ks : List Int) (f : Int → Int) : (ks.map fun p => ((Sum.inl p, V.int (f p)) : Key × V)) = kvN (ks.map fun p => (p, f p)) := by
  unfold kvN
  rw [List.map_map]
  rfl
theorem small {n : Nat} (h : n < 64) : n ≤ sizeLine := Nat.le_trans (Nat.le_of_lt h) (by decide)
theorem sc_mul : FnScope ["self", "other", "prime"] ["self", "other"] (defScope s_Number___mul__) := ⟨rfl, rfl, rfl, by decide +kernel, rfl, by decide +kernel, by decide +kernel⟩
abbrev f_mul : Int → Int → Int := fun i j => i + j
theorem m_mul (T : Tx fa fn ex K mg) : MtG P w K mg base 4 (NamesC K numCs) "__mul__" ["self", "other"] (spG (fun z : N2 => [numT K z.1.1, numT K z.1.2]) fun z => numT K (opK f_mul z.1.1 z.1.2)) := by
  have FE : MtG P w K mg base 1 (NamesC K numCs) "exponent" ["self", "prime"] _ := m_exponent T
  have FJ : MtG P w K mg base 2 (NamesC K numCs) "joined" ["self", "other"] _ := m_joined T
  have FN : FnG P w K mg base 3 "number_of" ["table"] _ := f_number_of T
  refine mt___mul__ T rfl (fun _ _ _ _ _ _ us hl => match us, hl with | [_, _], _ => rfl) fun f fd kws F => ?_
  refine fn_G F sc_mul (fun _ => rfl) fun z cdv Ar outer s H E hr nd D hD _ => ?_
  obtain ⟨⟨a, b⟩, hz⟩ := z
  have hz' : a.length + b.length < 64 := hz
  have hj : (joinK a b).length < 64 := Nat.lt_of_le_of_lt (joinK_len a b) hz'
  refine b_ret (g_call FN hr ⟨(joinK a b).map fun p => (p, f_mul (look a p) (look b p)), tab_nodup (joinK_nodup a b) _, by rw [List.length_map]; exact hj⟩ (ga_cons ?_ ga_nil)) hD
  refine g_dcM (i := 2) (joinK a b) (fun p => intT p) (fun p => Sum.inl p) (fun p => .int (f_mul (look a p) (look b p))) ?_ (small hj) (inl_nodup (joinK_nodup a b)) (fun p hp s H C cl fp => g_var 2) (fun p hp s H C cl fp => ?_) (by rw [tab_kv])
  · exact gi_list (g_meth FJ (hr.mono (by decide)) ⟨(a, b), hz⟩ (g_var 0) (ga_cons (g_var 1) ga_nil) fun v H h => num_of (by decide +kernel) h)
  · have hr1 := hr.mono (j := 1) (by decide)
    exact g_add (g_meth FE hr1 (a, p) (g_var 0) (ga_cons (g_var 2) ga_nil) fun v H h => num_of (by decide +kernel) h) (g_meth FE hr1 (b, p) (g_var 1) (ga_cons (g_var 2) ga_nil) fun v H h => num_of (by decide +kernel) h)
theorem sc_and : FnScope ["self", "other", "prime"] ["self", "other"] (defScope s_Number___and__) := ⟨rfl, rfl, rfl, by decide +kernel, rfl, by decide +kernel, by decide +kernel⟩
abbrev f_and : Int → Int → Int := fun i j => if j < i then j else i
theorem m_and (T : Tx fa fn ex K mg) : MtG P w K mg base 4 (NamesC K numCs) "__and__" ["self", "other"] (spG (fun z : N2 => [numT K z.1.1, numT K z.1.2]) fun z => numT K (opK f_and z.1.1 z.1.2)) := by
  have FE : MtG P w K mg base 1 (NamesC K numCs) "exponent" ["self", "prime"] _ := m_exponent T
  have FJ : MtG P w K mg base 2 (NamesC K numCs) "joined" ["self", "other"] _ := m_joined T
  have FN : FnG P w K mg base 3 "number_of" ["table"] _ := f_number_of T
  refine mt___and__ T rfl (fun _ _ _ _ _ _ us hl => match us, hl with | [_, _], _ => rfl) fun f fd kws F => ?_
  refine fn_G F sc_and (fun _ => rfl) fun z cdv Ar outer s H E hr nd D hD _ => ?_
  obtain ⟨⟨a, b⟩, hz⟩ := z
  have hz' : a.length + b.length < 64 := hz
  have hj : (joinK a b).length < 64 := Nat.lt_of_le_of_lt (joinK_len a b) hz'
  refine b_ret (g_call FN hr ⟨(joinK a b).map fun p => (p, f_and (look a p) (look b p)), tab_nodup (joinK_nodup a b) _, by rw [List.length_map]; exact hj⟩ (ga_cons ?_ ga_nil)) hD
  refine g_dcM (i := 2) (joinK a b) (fun p => intT p) (fun p => Sum.inl p) (fun p => .int (f_and (look a p) (look b p))) ?_ (small hj) (inl_nodup (joinK_nodup a b)) (fun p hp s H C cl fp => g_var 2) (fun p hp s H C cl fp => ?_) (by rw [tab_kv])
  · exact gi_list (g_meth FJ (hr.mono (by decide)) ⟨(a, b), hz⟩ (g_var 0) (ga_cons (g_var 1) ga_nil) fun v H h => num_of (by decide +kernel) h)
  · have hr1 := hr.mono (j := 1) (by decide)
    exact g_min2 (g_meth FE hr1 (a, p) (g_var 0) (ga_cons (g_var 2) ga_nil) fun v H h => num_of (by decide +kernel) h) (g_meth FE hr1 (b, p) (g_var 1) (ga_cons (g_var 2) ga_nil) fun v H h => num_of (by decide +kernel) h) (T.free _ q_free_min)
theorem sc_or : FnScope ["self", "other", "prime"] ["self", "other"] (defScope s_Number___or__) := ⟨rfl, rfl, rfl, by decide +kernel, rfl, by decide +kernel, by decide +kernel⟩
abbrev f_or : Int → Int → Int := fun i j => if j > i then j else i
theorem m_or (T : Tx fa fn ex K mg) : MtG P w K mg base 4 (NamesC K numCs) "__or__" ["self", "other"] (spG (fun z : N2 => [numT K z.1.1, numT K z.1.2]) fun z => numT K (opK f_or z.1.1 z.1.2)) := by
  have FE : MtG P w K mg base 1 (NamesC K numCs) "exponent" ["self", "prime"] _ := m_exponent T
  have FJ : MtG P w K mg base 2 (NamesC K numCs) "joined" ["self", "other"] _ := m_joined T
  have FN : FnG P w K mg base 3 "number_of" ["table"] _ := f_number_of T
  refine mt___or__ T rfl (fun _ _ _ _ _ _ us hl => match us, hl with | [_, _], _ => rfl) fun f fd kws F => ?_
  refine fn_G F sc_or (fun _ => rfl) fun z cdv Ar outer s H E hr nd D hD _ => ?_
  obtain ⟨⟨a, b⟩, hz⟩ := z
  have hz' : a.length + b.length < 64 := hz
  have hj : (joinK a b).length < 64 := Nat.lt_of_le_of_lt (joinK_len a b) hz'
  refine b_ret (g_call FN hr ⟨(joinK a b).map fun p => (p, f_or (look a p) (look b p)), tab_nodup (joinK_nodup a b) _, by rw [List.length_map]; exact hj⟩ (ga_cons ?_ ga_nil)) hD
  refine g_dcM (i := 2) (joinK a b) (fun p => intT p) (fun p => Sum.inl p) (fun p => .int (f_or (look a p) (look b p))) ?_ (small hj) (inl_nodup (joinK_nodup a b)) (fun p hp s H C cl fp => g_var 2) (fun p hp s H C cl fp => ?_) (by rw [tab_kv])
  · exact gi_list (g_meth FJ (hr.mono (by decide)) ⟨(a, b), hz⟩ (g_var 0) (ga_cons (g_var 1) ga_nil) fun v H h => num_of (by decide +kernel) h)
  · have hr1 := hr.mono (j := 1) (by decide)
    exact g_max2 (g_meth FE hr1 (a, p) (g_var 0) (ga_cons (g_var 2) ga_nil) fun v H h => num_of (by decide +kernel) h) (g_meth FE hr1 (b, p) (g_var 1) (ga_cons (g_var 2) ga_nil) fun v H h => num_of (by decide +kernel) h) (T.free _ q_free_max)
end
end K05

set_option Elab.async false
set_option linter.all false
set_option maxRecDepth 100000
set_option maxHeartbeats 8000000
namespace K05
open PySem PySem.Spec PyProof.Rows L2 RL NM
section
variable {P : Program} {w : World} {K : PySem.W.Frag} {mg : Str → Option Value} {base : Heap}
/-- whether a divides b -/
def dvdK (a b : NK) : Bool := ((a.map (·.1)).map fun p => decide (look a p ≤ look b p)).all id
/-- the first is a number of few primes -/
abbrev N1 := { z : NK × NK // z.1.length < 64 }
theorem sc_divides : FnScope ["self", "other", "prime"] ["self", "other"] (defScope s_Number_divides) := ⟨rfl, rfl, rfl, by decide +kernel, rfl, by decide +kernel, by decide +kernel⟩
theorem m_divides (T : Tx fa fn ex K mg) : MtG P w K mg base 2 (NamesC K numCs) "divides" ["self", "other"] (spG (fun z : N1 => [numT K z.1.1, numT K z.1.2]) fun z => blT (dvdK z.1.1 z.1.2)) := by
  have FE : MtG P w K mg base 1 (NamesC K numCs) "exponent" ["self", "prime"] _ := m_exponent T
  have FP : MtG P w K mg base 1 (NamesC K numCs) "primes" ["self"] _ := m_primes T
  refine mt_divides T rfl (fun _ _ _ _ _ _ us hl => match us, hl with | [_, _], _ => rfl) fun f fd kws F => ?_
  refine fn_G F sc_divides (fun _ => rfl) fun z cdv Ar outer s H E hr nd D hD _ => ?_
  obtain ⟨⟨a, b⟩, hz⟩ := z
  have hz' : a.length < 64 := hz
  refine b_ret (T := blT (dvdK a b)) (g_all (bs := (a.map (·.1)).map fun p => decide (look a p ≤ look b p)) ?_ (T.free _ q_free_all)) hD
  refine g_lcM (i := 2) (a.map (·.1)) (fun p => intT p) (fun p => blT (decide (look a p ≤ look b p))) ?_ (by rw [List.length_map]; exact small hz') (fun p hp s H C cl fp => ?_) (hR := by rw [List.map_map, List.map_map, List.map_map]; rfl)
  · exact gi_list (g_meth0 FP hr a (g_var 0) fun v H h => num_of (by decide +kernel) h)
  · exact g_le (g_meth FE hr (a, p) (g_var 0) (ga_cons (g_var 2) ga_nil) fun v H h => num_of (by decide +kernel) h) (g_meth FE hr (b, p) (g_var 1) (ga_cons (g_var 2) ga_nil) fun v H h => num_of (by decide +kernel) h)
theorem keys_kvN (a : NK) : keysT (kvN a) = a.map fun q => intT q.1 := by
  unfold keysT kvN
  rw [List.map_map]
  rfl
theorem sc_raised : FnScope ["self", "times", "prime"] ["self", "times"] (defScope s_Number_raised) := ⟨rfl, rfl, rfl, by decide +kernel, rfl, by decide +kernel, by decide +kernel⟩
/-- a number of few primes, of small exponents, and a small factor -/
abbrev NR := { z : NK × Int // Canon z.1 ∧ z.1.length < 64 ∧ (∀ q ∈ z.1, q.2.natAbs < 2 ^ 1000) ∧ z.2.natAbs < 2 ^ 1000 }
theorem fst_nodup {a : NK} (h : (a.map (·.1)).Nodup) : (a.map fun q => (Sum.inl q.1 : Key)).Nodup := by
  have := inl_nodup h
  rwa [List.map_map] at this
theorem m_raised (T : Tx fa fn ex K mg) : MtG P w K mg base 4 (NamesC K numCs) "raised" ["self", "times"] (spG (fun z : NR => [numT K z.1.1, intT z.1.2]) fun z => numT K (raisedK z.1.1 z.1.2)) := by
  have FN : FnG P w K mg base 3 "number_of" ["table"] _ := f_number_of T
  refine mt_raised T rfl (fun _ _ _ _ _ _ us hl => match us, hl with | [_, _], _ => rfl) fun f fd kws F => ?_
  refine fn_G F sc_raised (fun _ => rfl) fun z cdv Ar outer s H E hr nd D hD _ => ?_
  obtain ⟨⟨a, t⟩, ca, hz, he, ht⟩ := z
  have hz' : a.length < 64 := hz
  refine b_ret (g_call FN hr ⟨a.map fun q => (q.1, q.2 * t), by rw [List.map_map]; exact ca.nodup, by rw [List.length_map]; exact hz'⟩ (ga_cons ?_ ga_nil)) hD
  refine g_dcM (i := 2) a (fun q => intT q.1) (fun q => Sum.inl q.1) (fun q => .int (q.2 * t)) ?_ (small hz') (fst_nodup ca.nodup) (fun q hq s H C cl fp => g_var 2) (fun q hq s H C cl fp => ?_) (by unfold kvN; rw [List.map_map]; rfl)
  · rw [← keys_kvN]
    exact gi_keys (g_fld (g_var 0) (fld_powers T))
  · refine g_mul (n := 1000) (k := 1000) ?_ (g_var 1) (he q hq) ht
    refine g_ixd (k := Sum.inl q.1) (hu_of hr) (g_fld (g_var 0) (fld_powers T)) (g_var 2) ?_
    rw [kvN_val' (List.mem_map_of_mem hq), look_mem ca.nodup hq]
theorem sc_over : FnScope ["self", "other", "prime"] ["self", "other"] (defScope s_Number_over) := ⟨rfl, rfl, rfl, by decide +kernel, rfl, by decide +kernel, by decide +kernel⟩
abbrev NO := { z : NK × NK // Canon z.1 ∧ z.1.length < 64 ∧ z.2.length < 64 ∧ dvdK z.2 z.1 = true }
theorem m_over (T : Tx fa fn ex K mg) : MtG P w K mg base 4 (NamesC K numCs) "over" ["self", "other"] (spG (fun z : NO => [numT K z.1.1, numT K z.1.2]) fun z => numT K (overK z.1.1 z.1.2)) := by
  have FE : MtG P w K mg base 1 (NamesC K numCs) "exponent" ["self", "prime"] _ := m_exponent T
  have FD : MtG P w K mg base 2 (NamesC K numCs) "divides" ["self", "other"] _ := m_divides T
  have FN : FnG P w K mg base 3 "number_of" ["table"] _ := f_number_of T
  refine mt_over T rfl (fun _ _ _ _ _ _ us hl => match us, hl with | [_, _], _ => rfl) fun f fd kws F => ?_
  refine fn_G F sc_over (fun _ => rfl) fun z cdv Ar outer s H E hr nd D hD _ => ?_
  obtain ⟨⟨a, b⟩, ca, hz, hb, hd⟩ := z
  have hz' : a.length < 64 := hz
  have hd' : dvdK b a = true := hd
  have hr1 := hr.mono (j := 1) (by decide)
  refine b_if (gt_not (gt_bl (g_meth FD (hr.mono (by decide)) ⟨(b, a), hb⟩ (g_var 1) (ga_cons (g_var 0) ga_nil) fun v H h => num_of (by decide +kernel) h))) (fun h => ?_) fun h => b_nil fun σ H1 e1 t1 => Bd.nx ?_ σ H1 e1 t1
  · exfalso
    have h' : (!dvdK b a) = true := h
    rw [hd'] at h'
    cases h'
  refine b_ret (g_call FN hr ⟨a.map fun q => (q.1, q.2 - look b q.1), by rw [List.map_map]; exact ca.nodup, by rw [List.length_map]; exact hz'⟩ (ga_cons ?_ ga_nil)) hD
  refine g_dcM (i := 2) a (fun q => intT q.1) (fun q => Sum.inl q.1) (fun q => .int (q.2 - look b q.1)) ?_ (small hz') (fst_nodup ca.nodup) (fun q hq s H C cl fp => g_var 2) (fun q hq s H C cl fp => ?_) (by unfold kvN; rw [List.map_map]; rfl)
  · rw [← keys_kvN]
    exact gi_keys (g_fld (g_var 0) (fld_powers T))
  · refine g_sub ?_ (g_meth FE hr1 (b, q.1) (g_var 1) (ga_cons (g_var 2) ga_nil) fun v H h => num_of (by decide +kernel) h)
    refine (g_meth FE hr1 (a, q.1) (g_var 0) (ga_cons (g_var 2) ga_nil) fun v H h => num_of (by decide +kernel) h).is ?_
    show intT (look a q.1) = intT q.2
    rw [look_mem ca.nodup hq]
theorem sc_pairs : FnScope ["self", "prime"] ["self"] (defScope s_Number_pairs) := ⟨rfl, rfl, rfl, by decide +kernel, rfl, by decide +kernel, by decide +kernel⟩
abbrev NC := { z : NK // Canon z ∧ z.length < 64 }
abbrev prT (K : PySem.W.Frag) (a : NK) : Ty := lstT (a.map fun q => tupT K [intT q.1, intT q.2])
theorem m_pairs (T : Tx fa fn ex K mg) : MtG P w K mg base 1 (NamesC K numCs) "pairs" ["self"] (spG (fun z : NC => [numT K z.1]) fun z => prT K z.1) := by
  refine mt_pairs T rfl (fun _ _ _ _ _ _ us hl => match us, hl with | [_], _ => rfl) fun f fd kws F => ?_
  refine fn_G F sc_pairs (fun _ => rfl) fun z cdv Ar outer s H E hr nd D hD _ => ?_
  obtain ⟨a, ca, hz⟩ := z
  refine b_ret ?_ hD
  refine g_lcM (i := 1) a (fun q => intT q.1) (fun q => tupT K [intT q.1, intT q.2]) ?_ (small hz) (fun q hq s H C cl fp => ?_)
  · rw [← keys_kvN]
    exact gi_keys (g_fld (g_var 0) (fld_powers T))
  · refine g_tup (ga_cons (g_var 1) (ga_cons ?_ ga_nil)) (hl := by show 2 ≤ sizeLine; decide)
    refine g_ixd (k := Sum.inl q.1) (hu_of hr) (g_fld (g_var 0) (fld_powers T)) (g_var 1) ?_
    rw [kvN_val' (List.mem_map_of_mem hq), look_mem ca.nodup hq]
theorem sc_len : FnScope ["self"] ["self"] (defScope s_Number___len__) := ⟨rfl, rfl, rfl, by decide +kernel, rfl, by decide +kernel, by decide +kernel⟩
theorem m_len (T : Tx fa fn ex K mg) : MtG P w K mg base 1 (NamesC K numCs) "__len__" ["self"] (spG (fun z : NK => [numT K z]) fun z => intT z.length) := by
  refine mt___len__ T rfl (fun _ _ _ _ _ _ us hl => match us, hl with | [_], _ => rfl) fun f fd kws F => ?_
  refine fn_G F sc_len (fun _ => rfl) fun z cdv Ar outer s H E hr nd D hD _ => ?_
  refine b_ret ((g_lenD (g_fld (g_var 0) (fld_powers T)) (T.free _ q_free_len)).is ?_) hD
  unfold kvN
  rw [List.length_map]
/-- the data of a number's pairs -/
def dK (a : NK) : PyData := .list (a.map fun q => .tuple [.int q.1, .int q.2])
theorem dK_is (a : NK) : IsDp K (prT K a) (dK a) := dp_lst (areDp_map a fun q _ => dp_tup (.cons dp_int (.cons dp_int .nil)))
theorem dK_eq : ∀ a b : NK, PyData.eqvAll (a.map fun q => .tuple [.int q.1, .int q.2]) (b.map fun q => .tuple [.int q.1, .int q.2]) = decide (a = b)
  | [], [] => by simp [PyData.eqvAll]
  | [], _ :: _ => by simp [PyData.eqvAll]
  | _ :: _, [] => by simp [PyData.eqvAll]
  | p :: a, q :: b => by
    rw [List.map_cons, List.map_cons, PyData.eqvAll, dK_eq a b]
    obtain ⟨p1, p2⟩ := p
    obtain ⟨q1, q2⟩ := q
    simp only [PyData.eqv, PyData.eqvAll, Bool.and_true]
    rw [Bool.eq_iff_iff]
    simp [and_assoc]
theorem dK_shaped (a : NK) : SeqAt.shaped (dK a) = true := by
  refine (lay_list (n := 1) fun d hd => ?_).shaped (by decide)
  obtain ⟨q, _, rfl⟩ := List.mem_map.mp hd
  refine lay_tup fun d hd => ?_
  simp only [List.mem_cons, List.not_mem_nil, or_false] at hd
  rcases hd with rfl | rfl <;> exact lay_int
theorem sc_eq : FnScope ["self", "other"] ["self", "other"] (defScope s_Number___eq__) := ⟨rfl, rfl, rfl, by decide +kernel, rfl, by decide +kernel, by decide +kernel⟩
abbrev NE := { z : NK × NK // (Canon z.1 ∧ z.1.length < 64) ∧ (Canon z.2 ∧ z.2.length < 64) }
theorem m_eq (T : Tx fa fn ex K mg) : MtG P w K mg base 2 (NamesC K numCs) "__eq__" ["self", "other"] (spG (fun z : NE => [numT K z.1.1, numT K z.1.2]) fun z => blT (decide (z.1.1 = z.1.2))) := by
  have FP : MtG P w K mg base 1 (NamesC K numCs) "pairs" ["self"] _ := m_pairs T
  have hisa : isaB K numCs "Number" = true := by
    have := T.c.2
    unfold ex at this
    simp only [Bool.and_eq_true] at this
    exact this.1.2
  refine mt___eq__ T rfl (fun _ _ _ _ _ _ us hl => match us, hl with | [_, _], _ => rfl) fun f fd kws F => ?_
  refine fn_G F sc_eq (fun _ => rfl) fun z cdv Ar outer s H E hr nd D hD _ => ?_
  obtain ⟨⟨a, b⟩, ha, hb⟩ := z
  refine b_ret ((g_and2 (k := true) (l := decide (a = b)) (g_isO (g_var 1) (fun v H h => isa_of hisa (num_any h)) (T.free _ q_free_isinstance) (T.glo _ q_glo_Number)) fun _ => ?_).is (by rw [Bool.true_and])) hD
  refine (g_eqD (d := dK a) (d' := dK b) (room64 hr) (g_meth0 FP hr ⟨a, ha⟩ (g_var 0) fun v H h => num_of (by decide +kernel) h) (g_meth0 FP hr ⟨b, hb⟩ (g_var 1) fun v H h => num_of (by decide +kernel) h) (dK_is a) (dK_is b) (dK_shaped a) (dK_shaped b)).is ?_
  show blT (PyData.eqvAll _ _) = _
  rw [dK_eq]
end
end K05

set_option Elab.async false
set_option linter.all false
set_option maxRecDepth 100000
set_option maxHeartbeats 8000000
namespace K05
open PySem PySem.Spec PyProof.Rows L2 RL NM StX
section
variable {P : Program} {w : World} {K : PySem.W.Frag} {mg : Str → Option Value} {base : Heap}
/-- an instance as it stands -/
def insT (a C dx : Addr) (fs : List (Str × V)) : RL.Ty := ⟨fun v H => v = .ref a ∧ H a = some (.ins C dx fs), fun e ⟨h1, h2⟩ => ⟨h1, e _ _ h2⟩⟩
instance (a C dx : Addr) (fs : List (Str × V)) : Stb (insT a C dx fs) := ⟨fun e ⟨h1, h2⟩ => ⟨h1, e _ _ (fun z => z) h2⟩⟩
theorem tup_ty {K : PySem.W.Frag} {Ts : List RL.Ty} {v : V} {H : Hp} (h : tupT K Ts v H) : TyX K H v (.type "tuple") := by
  obtain ⟨a, vs, rfl, hp, _⟩ := h
  rcases hp with h | ⟨o, h⟩ | h
  · exact .base (.tup h)
  · exact .fTuple h
  · rcases h (fun _ => none) with z | ⟨o, its, n, h1, h2, _⟩
    · rcases z with z | ⟨o, z⟩ <;> cases z
    · exact .kTuple h1 h2
abbrev pT (K : PySem.W.Frag) (q : Int × Int) : RL.Ty := tupT K [intT q.1, intT q.2]
/-- pairs that Number takes -/
structure PairsOk (l : NK) : Prop where
  asc : (l.map (·.1)).Pairwise (· < ·)
  pos : ∀ q ∈ l, 0 < q.2
  pr : ∀ q ∈ l, 0 < q.1 ∧ q.1 < 1000 ∧ isPB q.1 = true
  len : l.length < 64
theorem PairsOk.canon {l : NK} (h : PairsOk l) : Canon l := ⟨h.asc, h.pos⟩
def lastP (l : NK) : Int := (l.getLast?.map (·.1)).getD 0
theorem lastP_snoc (l : NK) (q : Int × Int) : lastP (l ++ [q]) = q.1 := by simp [lastP]
theorem take_lt {l : NK} (h : PairsOk l) {i : Nat} {q : Int × Int} (hq : l[i]? = some q) : ∀ p ∈ (l.take i).map (·.1), p < q.1 := fun p hp => by
  have hs : l.take i ++ l.drop i = l := List.take_append_drop i l
  have hd : q ∈ l.drop i := by
    have : (l.drop i)[0]? = some q := by rw [List.getElem?_drop]; simpa using hq
    exact List.mem_of_getElem? this
  have ha := h.asc
  rw [← hs, List.map_append] at ha
  exact (List.pairwise_append.mp ha).2.2 p hp q.1 (List.mem_map_of_mem hd)
theorem lastP_lt {l : NK} (h : PairsOk l) {i : Nat} {q : Int × Int} (hq : l[i]? = some q) : lastP (l.take i) < q.1 := by
  unfold lastP
  cases e : (l.take i).getLast? with
  | none => exact (h.pr q (List.mem_of_getElem? hq)).1
  | some z => exact take_lt h hq z.1 (List.mem_map_of_mem (List.mem_of_getLast? e))
theorem put_kvN {l : NK} {q : Int × Int} (h : q.1 ∉ l.map (·.1)) : putK (kvN l) (Sum.inl q.1) (.int q.2) = kvN (l ++ [q]) := by
  have hn : valV (kvN l) (Sum.inl q.1 : Key) = none := by
    cases e : valV (kvN l) (Sum.inl q.1 : Key) with
    | none => rfl
    | some z =>
      have hi := valV_in e
      rw [kvN_keys] at hi
      obtain ⟨p, hp, e2⟩ := List.mem_map.mp hi
      rw [← Sum.inl.inj e2] at h
      exact absurd hp h
  rw [putK_new _ hn]
  unfold kvN
  rw [List.map_append]
  rfl
def spInit (K : PySem.W.Frag) (l : NK) : Sp := fun vs H Q _ => ∃ (x C dx : Addr) (t : V), vs = [.ref x, t] ∧ H x = some (.ins C dx []) ∧ NamesC K numCs C ∧ tupT K (l.map (pT K)) t H ∧ ∀ H' d o, Ex H H' → H' d = some (.frz o (.dK (kvN l))) → Q .non (upd H' x (.ins C dx [("powers", .ref d)]))
theorem sc_init : FnScope ["self", "pairs", "found", "last", "index", "pair"] (([("self" : Str)]) ++ [("pairs" : Str)]) (defScope s_Number___init__) := ⟨rfl, rfl, rfl, by decide +kernel, rfl, by decide +kernel, by decide +kernel⟩
theorem init_body (T : Tx fa fn ex K mg) {l : NK} (hl : PairsOk l) {f : Addr} {cdv : Value} {A : Around} {outer : List Env} {s : Shared} {H : Hp} {Q : VK} {E : XK} {vs : List V} (hr : Room 2 (A.deeper (envOfC d_Number___init__.qual d_Number___init__.scope s.heap.objs.size f cdv))) (h : spInit K l vs H Q E) :
    tB (BX P w K mg base ["self", "pairs", "found", "last", "index", "pair"] d_Number___init__.qual d_Number___init__.scope f cdv A outer s H E) (defBody s_Number___init__) { nx := fun _ H' => Q .non H', rt := Q } (L2.start ["self", "pairs", "found", "last", "index", "pair"] vs) H := by
  have F1 : FnG P w K mg base 1 "is_integer" ["value"] _ := f_is_integer T
  have F2 : FnG P w K mg base 2 "is_known_prime" ["value"] _ := f_is_known_prime T
  obtain ⟨x, C, dx, t, rfl, hx, hC, ht, q⟩ := h
  have nd : (BX P w K mg base ["self", "pairs", "found", "last", "index", "pair"] d_Number___init__.qual d_Number___init__.scope f cdv A outer s H E).N.Nodup := by
    show List.Nodup [_, _, _, _, _, _]
    decide +kernel
  have t0 : Typed (L2.start ["self", "pairs", "found", "last", "index", "pair"] [.ref x, t]) (ctx0 ["self", "pairs", "found", "last", "index", "pair"] [insT x C dx [], tupT K (l.map (pT K))]) H := typed0 ⟨⟨rfl, hx⟩, ht, trivial⟩
  suffices hb : Bd (BX P w K mg base ["self", "pairs", "found", "last", "index", "pair"] d_Number___init__.qual d_Number___init__.scope f cdv A outer s H E) (ctx0 ["self", "pairs", "found", "last", "index", "pair"] [insT x C dx [], tupT K (l.map (pT K))]) (defBody s_Number___init__) (Bs.of H) { nx := fun _ H' => Q .non H', rt := Q } from hb _ _ (Bs.refl H) t0
  refine b_newD 2 fun a ha => ?_
  refine b_asg 3 g_int ?_
  refine b_for (g := gTup K 2 (gCons (gName 4) (gCons (gName 5) gNil))) (fun i Δ => ∃ u v, Δ = [some (insT x C dx []), some (tupT K (l.map (pT K))), some (mdT a (kvN (l.take i))), some (intT (lastP (l.take i))), u, v]) (gi_enumT (g_var 1) (T.free _ q_free_enumerate)) (pg_tup rfl (pgs_cons (pg_name nd rfl (Or.inl rfl)) (pgs_cons (pg_name nd rfl (Or.inl rfl)) pgs_nil))) ⟨none, none, by simp [kvN, lastP]; rfl⟩ (fun H1 i T1 Δ b1 hT hΔ => ?_) fun Δ hΔ => ?_
  · have hi : ∃ q, l[i]? = some q ∧ T1 = tupT K [intT (i : Nat), pT K q] := by
      cases hq : l[i]? with
      | none =>
        have hn : (enumT K (l.map (pT K)))[i]? = none := by
          rw [List.getElem?_eq_none_iff, enumT_len, List.length_map]
          exact List.getElem?_eq_none_iff.mp hq
        have hT' : (enumT K (l.map (pT K)))[i]? = some T1 := hT
        rw [hn] at hT'
        cases hT'
      | some q =>
        refine ⟨q, rfl, ?_⟩
        have hs := enumT_get (K := K) (Ts := l.map (pT K)) (i := i) (T := pT K q) (by rw [List.getElem?_map, hq]; rfl)
        have hT' : (enumT K (l.map (pT K)))[i]? = some T1 := hT
        rw [hs] at hT'
        exact (Option.some.inj hT').symm
    obtain ⟨q, hq, rfl⟩ := hi
    obtain ⟨u, v, rfl⟩ := hΔ
    have hmem : q ∈ l := List.mem_of_getElem? hq
    obtain ⟨p0, p1, p2⟩ := hl.pr q hmem
    have hpos := hl.pos q hmem
    have hlast := lastP_lt hl hq
    have htake : l.take (i + 1) = l.take i ++ [q] := by rw [List.take_succ, hq]; rfl
    refine ⟨_, tgts2, ?_⟩
    have hr1 := hr.mono (j := 1) (by decide)
    refine b_if ((gt_or4 (k := false) (l := false) (n := false) (r := false) ?_ (fun _ => ?_) (fun _ _ => ?_) (fun _ _ _ => ?_)).is (b' := false) rfl) (fun h => by cases h) fun _ => b_nil fun σ H2 e2 t2 => Bd.nx ?_ σ H2 e2 t2
    · exact (gt_not (gt_bl (g_isi (v := .non) (n := "tuple") (r := true) (g_var 5) (fun v H h => tup_ty h) (T.free _ q_free_isinstance) (T.free _ q_free_tuple) (n' := "tuple") (by decide +kernel) (by decide +kernel)))).is rfl
    · exact (gt_neI (g_lenT (g_var 5) (T.free _ q_free_len)) g_int).is rfl
    · refine (gt_not (gt_bl (g_call F2 hr q.1 (ga_cons (g_ixT (T := intT q.1) (g_var 5) g_int) ga_nil)))).is ?_
      simp [p1, p2]
    · exact (gt_le (g_ixT (T := intT q.1) (g_var 5) g_int) (g_var 3)).is (by simpa using hlast)
    refine b_if ((gt_or2 (k := false) (l := false) ?_ (fun _ => ?_)).is (b' := false) rfl) (fun h => by cases h) fun _ => b_nil fun σ H2 e2 t2 => Bd.nx ?_ σ H2 e2 t2
    · exact (gt_not (gt_bl (g_call F1 hr1 q.2 (ga_cons (g_ixT (T := intT q.2) (g_var 5) g_int) ga_nil)))).is rfl
    · exact (gt_lt (g_ixT (T := intT q.2) (g_var 5) g_int) g_int).is (by simp; omega)
    refine b_asg 3 (g_ixT (T := intT q.1) (g_var 5) g_int) ?_
    refine b_dput 2 (kk := Sum.inl q.1) (v := .int q.2) (by exact rfl) (by exact g_var 3) (by exact g_ixT (T := intT q.2) (g_var 5) g_int) (by exact ha) ?_ (by repeat (first | exact stbC_nil | refine stbC_none ?_ | refine stbC_some inferInstance ?_)) (by exact hu_of hr) ?_
    · unfold kvN
      rw [List.length_map, List.length_take]
      exact Nat.lt_of_le_of_lt (Nat.min_le_right _ _) (Nat.lt_trans hl.len (by decide))
    refine turn_nx ⟨some (intT (i : Nat)), some (pT K q), ?_⟩
    rw [htake, lastP_snoc, put_kvN ?_]
    · rfl
    · intro hm
      exact absurd (take_lt hl hq _ hm) (by omega)
  · obtain ⟨u, v, rfl⟩ := hΔ
    have e : (enumT K (l.map (pT K))).length = l.length := by rw [enumT_len, List.length_map]
    have e2 : l.take (enumT K (l.map (pT K))).length = l := by rw [e, List.take_length]
    show Bd _ [_, _, some (mdT a (kvN (l.take (enumT K (l.map (pT K))).length))), some (intT (lastP (l.take (enumT K (l.map (pT K))).length))), u, v] _ _ _
    rw [e2]
    refine b_weak (Δ := [some (insT x C dx []), some (tupT K (l.map (pT K))), some (mdT a (kvN l)), none, none, none]) ?_ fun σ H1 t1 => ((t1.drop 3).drop 4).drop 5
    refine b_frzD 2 rfl ha (by repeat (first | exact stbC_nil | refine stbC_none ?_ | refine stbC_some inferInstance ?_)) ?_
    refine fun σ H1 e1 t1 => toB (pss_one (ps_fld (pv 0) (pv 2) rfl)) ?_
    obtain ⟨v1, h1, d, o, ev, hd⟩ := t1.get 2 rfl
    obtain ⟨v0, h0, ev0, hx1⟩ := t1.get 0 rfl
    subst ev; subst ev0
    exact ⟨_, h1, _, h0, x, C, dx, [], rfl, hx1, (cls_num T hC).1, (cls_num T hC).2, by decide, q H1 d o e1.1 hd⟩
theorem r_init (T : Tx fa fn ex K mg) {l : NK} (hl : PairsOk l) : ∃ f, Mk K (He.ga K "Number") f ∧ FnR P w K mg base CX0 3 f (fun vs H Q E => ∃ (x C dx : Addr) (ts : List V), vs = .ref x :: ts ∧ H x = some (.ins C dx []) ∧ NamesC K numCs C ∧ All2 (l.map (pT K)) ts H ∧ ∀ H' d o, Ex H H' → H' d = some (.frz o (.dK (kvN l))) → Q .non (upd H' x (.ins C dx [("powers", .ref d)]))) := by
  obtain ⟨fd, F⟩ := T.def_ d_Number___init__ i_Number___init__
  have M := He.mkr_ok (T.fact _ q_mkr_Number)
  obtain ⟨oc, od, dV, kV, doc, pm, an, cdv, ct, osl, efd, lk, hcd, hD, _⟩ := F.ex
  subst efd
  rcases hD with ⟨_, rfl⟩ | ⟨e, _⟩
  rotate_left
  · exact absurd rfl e
  refine ⟨_, M, FnR.imp (fn_star (ps := ["self"]) (pv := "pairs") (sp := spInit K l) lk hcd sc_init (fun _ _ _ _ _ _ _ _ _ _ _ z => z) (fun us rest hl => match us, rest, hl with | [a], [], _ => rfl | [a], r :: rs, _ => rfl) fun A outer s H vs Q E hr hsp => ⟨_, (pb _).nox, init_body T hl hr hsp⟩) fun vs H Q E h => ?_⟩
  obtain ⟨x, C, dx, ts, rfl, hx, hC, h2, q⟩ := h
  refine ⟨[.ref x], ts, rfl, rfl, ?_, fun p hp => ⟨x, C, dx, .ref p, rfl, ?_, hC, ⟨p, ts, rfl, .inl upd_same, h2.up (Ex.new hp)⟩, fun H' d o e hd => q H' d o ((Ex.new hp).trans e) hd⟩⟩
  · rw [← h2.len, List.length_map]
    exact small hl.len
  · rw [upd_ne (ne_of_none hx hp)]
    exact hx
/-- what a Number that was just made is -/
theorem num_made {l : NK} {H1 H' : Hp} {x dx d : Addr} {o : Obj} (nx : H1 x = none) (ndx : H1 dx = none) (nex : dx ≠ x) (hC : NamesC K numCs (He.ga K "Number")) (e : Ex (upd (upd H1 dx (.own x)) x (.ins (He.ga K "Number") dx [])) H') (hd : H' d = some (.frz o (.dK (kvN l)))) :
    Ex H1 (upd H' x (.ins (He.ga K "Number") dx [("powers", .ref d)])) ∧ numT K l (.ref x) (upd H' x (.ins (He.ga K "Number") dx [("powers", .ref d)])) := by
  have e1 : Ex H1 (upd (upd H1 dx (.own x)) x (.ins (He.ga K "Number") dx [])) := (Ex.new ndx).trans (Ex.new (by rw [upd_ne (Ne.symm nex)]; exact nx))
  refine ⟨(e1.trans e).mut nx, x, _, dx, d, o, rfl, upd_same, hC, ?_⟩
  have hx : H' x = some (.ins (He.ga K "Number") dx []) := e _ _ upd_same
  rw [upd_ne (ne_of hd hx (by intro z; cases z))]
  exact hd
theorem g_number1 (T : Tx fa fn ex K mg) {X : Cx} (hX : X.K = K ∧ X.mg = mg) {Γ : RL.Ctx} {e : Expr} {q : Int × Int} {p pos : Pos} (hq : PairsOk [q]) (he : G X Γ e (pT K q)) (hr : Room 4 X.A) (hg : Gl X "Number" := by rfl) (hs : starEach [e] X.env = (false, eval e X.env) :: starEach [] X.env := by rfl) :
    G X Γ (.Call (.Name "Number" p) [e] [] pos) (numT K [q]) := fun σ H t Q k => by
  obtain ⟨rfl, rfl⟩ := hX
  obtain ⟨f, M, F⟩ := r_init (P := X.prog) (w := X.w) (base := X.base) T hq
  refine toE (pe_makeR M F hr hg (T.glo _ q_glo_Number) pass0 (pa_cons (pe e) pa_nil hs) (he := hs)) (he σ H t _ fun v H1 e1 hv => ?_)
  intro x dx nx ndx nex
  have e2 : Ex H1 (upd (upd H1 dx (.own x)) x (.ins (He.ga X.K "Number") dx [])) := (Ex.new ndx).trans (Ex.new (by rw [upd_ne (Ne.symm nex)]; exact nx))
  refine ⟨x, _, dx, [v], rfl, upd_same, ⟨_, by simp [numCs], rfl⟩, ⟨(pT X.K q).up e2 hv, trivial⟩, fun H' d o e3 hd => ⟨rfl, ?_⟩⟩
  obtain ⟨h1, h2⟩ := num_made nx ndx nex ⟨"Number", by simp [numCs], rfl⟩ e3 hd
  exact k _ _ (e1.trans h1) h2
theorem pairsOk_nil : PairsOk [] := ⟨.nil, fun q h => by simp at h, fun q h => by simp at h, by decide⟩
theorem g_number0 (T : Tx fa fn ex K mg) {X : Cx} (hX : X.K = K ∧ X.mg = mg) {Γ : RL.Ctx} {p pos : Pos} (hr : Room 4 X.A) (hg : Gl X "Number" := by rfl) (hdb : (("Number" : Str) == ("__debug__" : Str)) = false := by decide) : G X Γ (.Call (.Name "Number" p) [] [] pos) (numT K []) := fun σ H t Q k => by
  refine ⟨fun pins s I => ?_⟩
  obtain ⟨rfl, rfl⟩ := hX
  obtain ⟨f, M, F⟩ := r_init (P := X.prog) (w := X.w) (base := X.base) T pairsOk_nil
  refine wpAny_Call_Name_kw (ld_glob I hg (T.glo _ q_glo_Number) ?_ hdb)
  exact PySem.W.callWith_K0 I.kIn M.kp (StX.run_makeR (us := []) (vs := []) M F hr pass0 I .nil fun x dx nx ndx nex =>
    ⟨x, _, dx, [], rfl, upd_same, ⟨_, by simp [numCs], rfl⟩, trivial, fun H' d o e3 hd => ⟨rfl, by
      obtain ⟨h1, h2⟩ := num_made nx ndx nex ⟨"Number", by simp [numCs], rfl⟩ e3 hd
      exact k _ _ h1 h2⟩⟩)
end
end K05

set_option Elab.async false
set_option linter.all false
set_option maxRecDepth 100000
set_option maxHeartbeats 8000000
namespace K05
open PySem PySem.Spec PyProof.Rows L2 RL NM StX
section
variable {P : Program} {w : World} {K : PySem.W.Frag} {mg : Str → Option Value} {base : Heap}
theorem exs0 (T : Tx fa fn ex K mg) : famB K numCs = true ∧ (∀ x ∈ numCs, (lacksB K (He.ga K x) "__rmul__" = true ∧ lacksB K (He.ga K x) "__rand__" = true) ∧ rorsB K (He.ga K x) = true) := by
  have := T.c.2
  unfold ex at this
  simp only [Bool.and_eq_true, List.all_eq_true] at this
  exact ⟨this.1.1, fun x hx => this.2 x hx⟩
theorem exs (T : Tx fa fn ex K mg) : famB K numCs = true ∧ (∀ x ∈ numCs, lacksB K (He.ga K x) "__rmul__" = true ∧ lacksB K (He.ga K x) "__rand__" = true) := ⟨(exs0 T).1, fun x hx => ((exs0 T).2 x hx).1⟩
theorem exr (T : Tx fa fn ex K mg) : ∀ x ∈ numCs, rorsB K (He.ga K x) = true := fun x hx => ((exs0 T).2 x hx).2
theorem fam (T : Tx fa fn ex K mg) : Fam K (NamesC K numCs) := fam_of (exs T).1
section
variable {X : Cx} {Γ : RL.Ctx} {a b : Expr} {pos : Pos} {x y : NK}
theorem g_mulN (T : Tx fa fn ex K mg) (hX : X.K = K ∧ X.mg = mg) (hr : Room 4 X.A) (hz : x.length + y.length < 64) (ha : G X Γ a (numT K x)) (hb : G X Γ b (numT K y)) : G X Γ (.BinOp a .Mult b pos) (numT K (opK f_mul x y)) := by
  obtain ⟨rfl, rfl⟩ := hX
  have F : MtG X.prog X.w X.K X.mg X.base 4 (NamesC X.K numCs) "__mul__" ["self", "other"] _ := m_mul T
  refine g_op (op_ownB (op := .Mult) (fam T) F hr (by rintro D ⟨z, hz, rfl⟩; exact lacks_of ((exs T).2 z hz).1)) ha hb fun v w H hv hw Q q => ⟨num_any hv, num_any hw, ⟨(x, y), hz⟩, ⟨hv, hw, trivial⟩, q⟩
theorem g_andN (T : Tx fa fn ex K mg) (hX : X.K = K ∧ X.mg = mg) (hr : Room 4 X.A) (hz : x.length + y.length < 64) (ha : G X Γ a (numT K x)) (hb : G X Γ b (numT K y)) : G X Γ (.BinOp a .BitAnd b pos) (numT K (opK f_and x y)) := by
  obtain ⟨rfl, rfl⟩ := hX
  have F : MtG X.prog X.w X.K X.mg X.base 4 (NamesC X.K numCs) "__and__" ["self", "other"] _ := m_and T
  refine g_op (op_ownB (op := .BitAnd) (fam T) F hr (by rintro D ⟨z, hz, rfl⟩; exact lacks_of ((exs T).2 z hz).2)) ha hb fun v w H hv hw Q q => ⟨num_any hv, num_any hw, ⟨(x, y), hz⟩, ⟨hv, hw, trivial⟩, q⟩
/-- numbers that are compared -/
def CmpN (x : NK) : Prop := Canon x ∧ x.length < 64
theorem gt_neN (T : Tx fa fn ex K mg) (hX : X.K = K ∧ X.mg = mg) (hr : Room 3 X.A) (hx : CmpN x) (hy : CmpN y) (ha : G X Γ a (numT K x)) (hb : G X Γ b (numT K y)) : GT X Γ (.Compare a [.NotEq] [b] pos) (decide (x ≠ y)) := by
  obtain ⟨rfl, rfl⟩ := hX
  have F : MtG X.prog X.w X.K X.mg X.base 2 (NamesC X.K numCs) "__eq__" ["self", "other"] _ := m_eq T
  refine gt_cmp (op_ownN (fam T) F hr) ha hb (fun v w H hv hw Q q => ⟨num_any hv, num_any hw, ⟨⟨(x, y), hx, hy⟩, ⟨hv, hw, trivial⟩, fun v' H' e h => ⟨_, h, q _ _ e ?_⟩⟩, ⟨⟨(y, x), hy, hx⟩, ⟨hw, hv, trivial⟩, fun v' H' e h => ⟨_, h, q _ _ e ?_⟩⟩⟩) (nomark _)
  · show V.bl _ = V.bl _
    by_cases h : x = y <;> simp [h]
  · show V.bl _ = V.bl _
    by_cases h : x = y
    · subst h; simp
    · have h' : ¬ y = x := fun z => h z.symm
      simp [h, h']
theorem g_eqN (T : Tx fa fn ex K mg) (hX : X.K = K ∧ X.mg = mg) (hr : Room 2 X.A) (hx : CmpN x) (hy : CmpN y) (ha : G X Γ a (numT K x)) (hb : G X Γ b (numT K y)) : G X Γ (.Compare a [.Eq] [b] pos) (blT (decide (x = y))) := by
  obtain ⟨rfl, rfl⟩ := hX
  have F : MtG X.prog X.w X.K X.mg X.base 2 (NamesC X.K numCs) "__eq__" ["self", "other"] _ := m_eq T
  refine g_cmp (op_ownE (fam T) F hr) ha hb (fun v w H hv hw Q q => ⟨num_any hv, num_any hw, ⟨⟨(x, y), hx, hy⟩, ⟨hv, hw, trivial⟩, q⟩, ⟨⟨(y, x), hy, hx⟩, ⟨hw, hv, trivial⟩, fun v' H' e h => q _ _ e ?_⟩⟩) (nomark _)
  have h' : v' = V.bl (decide (y = x)) := h
  rw [h']
  show V.bl _ = V.bl _
  by_cases h : x = y
  · subst h; simp
  · have h' : ¬ y = x := fun z => h z.symm
    simp [h, h']
end
end
end K05

set_option Elab.async false
set_option linter.all false
set_option maxRecDepth 100000
set_option maxHeartbeats 8000000
namespace K05
open PySem PySem.Spec PyProof.Rows L2 RL NM StX
section
variable {P : Program} {w : World} {K : PySem.W.Frag} {mg : Str → Option Value} {base : Heap}
theorem normK_len (l : NK) : (normK l).length ≤ l.length := by
  unfold normK
  refine Nat.le_trans (List.length_filterMap_le _ _) (Nat.le_trans (sortU_len _) ?_)
  rw [List.length_map]
  exact Nat.le_refl _
theorem opK_len (f : Int → Int → Int) (a b : NK) : (opK f a b).length ≤ a.length + b.length := by
  unfold opK
  refine Nat.le_trans (normK_len _) ?_
  rw [List.length_map]
  exact joinK_len a b
def prodK (zs : List NK) : NK := zs.foldl (opK f_mul) []
theorem prodK_snoc (zs : List NK) (z : NK) : prodK (zs ++ [z]) = opK f_mul (prodK zs) z := by simp [prodK]
theorem prodK_len (zs : List NK) : (prodK zs).length ≤ (zs.map List.length).sum := by
  have h : ∀ (zs : List NK) (a : NK), (zs.foldl (opK f_mul) a).length ≤ a.length + (zs.map List.length).sum := by
    intro zs
    induction zs with
    | nil => intro a; simp
    | cons z zs ih =>
      intro a
      rw [List.foldl_cons, List.map_cons, List.sum_cons]
      have h1 := ih (opK f_mul a z)
      have h2 := opK_len f_mul a z
      omega
  have := h zs []
  simpa [prodK] using this
def spProd (K : PySem.W.Frag) (zs : List NK) : Sp := fun vs H Q _ => ∃ t, vs = [t] ∧ tupT K (zs.map (numT K)) t H ∧ ∀ v H', Ex H H' → numT K (prodK zs) v H' → Q v H'
theorem sc_product : FnScope ["numbers", "found", "number"] (([] : List Str) ++ [("numbers" : Str)]) (defScope s_product) := ⟨rfl, rfl, rfl, by decide +kernel, rfl, by decide +kernel, by decide +kernel⟩
theorem product_body (T : Tx fa fn ex K mg) {zs : List NK} (hz : (zs.map List.length).sum < 64) {f : Addr} {cdv : Value} {A : Around} {outer : List Env} {s : Shared} {H : Hp} {Q : VK} {E : XK} {vs : List V} (hr : Room 4 (A.deeper (envOfC d_product.qual d_product.scope s.heap.objs.size f cdv))) (h : spProd K zs vs H Q E) :
    tB (BX P w K mg base ["numbers", "found", "number"] d_product.qual d_product.scope f cdv A outer s H E) (defBody s_product) { nx := fun _ H' => Q .non H', rt := Q } (L2.start ["numbers", "found", "number"] vs) H := by
  obtain ⟨t, rfl, ht, q⟩ := h
  have nd : (BX P w K mg base ["numbers", "found", "number"] d_product.qual d_product.scope f cdv A outer s H E).N.Nodup := by
    show List.Nodup [_, _, _]
    decide +kernel
  have t0 : Typed (L2.start ["numbers", "found", "number"] [t]) (ctx0 ["numbers", "found", "number"] [tupT K (zs.map (numT K))]) H := typed0 ⟨ht, trivial⟩
  suffices hb : Bd (BX P w K mg base ["numbers", "found", "number"] d_product.qual d_product.scope f cdv A outer s H E) (ctx0 ["numbers", "found", "number"] [tupT K (zs.map (numT K))]) (defBody s_product) (Bs.of H) { nx := fun _ H' => Q .non H', rt := Q } from hb _ _ (Bs.refl H) t0
  refine b_asg 1 (g_number0 T ⟨rfl, rfl⟩ hr) ?_
  refine b_for (g := gName 2) (fun i Δ => ∃ u, Δ = [some (tupT K (zs.map (numT K))), some (numT K (prodK (zs.take i))), u]) (gi_tup (g_var 0)) (pg_name nd rfl (Or.inl rfl)) ⟨none, rfl⟩ (fun H1 i T1 Δ b1 hT hΔ => ?_) fun Δ hΔ => ?_
  · obtain ⟨u, rfl⟩ := hΔ
    rw [List.getElem?_map] at hT
    cases hq : zs[i]? with
    | none => rw [hq] at hT; cases hT
    | some z =>
      rw [hq] at hT
      cases hT
      have htake : zs.take (i + 1) = zs.take i ++ [z] := by rw [List.take_succ, hq]; rfl
      have hsum : (prodK (zs.take i)).length + z.length < 64 := by
        have h1 := prodK_len (zs.take i)
        have h2 : zs = zs.take i ++ z :: zs.drop (i + 1) := by
          have hl : i < zs.length := (List.getElem?_eq_some_iff.mp hq).1
          have e := List.take_append_drop i zs
          rw [List.drop_eq_getElem_cons hl] at e
          rw [show zs[i] = z from by rw [List.getElem?_eq_getElem hl] at hq; exact Option.some.inj hq] at e
          exact e.symm
        rw [h2, List.map_append, List.map_cons, List.sum_append, List.sum_cons] at hz
        omega
      refine ⟨_, tgt_name, ?_⟩
      refine b_asg 1 (g_mulN T ⟨rfl, rfl⟩ hr hsum (g_var 1) (g_var 2)) ?_
      refine turn_nx ⟨some (numT K z), ?_⟩
      rw [htake, prodK_snoc]
      rfl
  · obtain ⟨u, rfl⟩ := hΔ
    rw [List.length_map, List.take_length]
    exact b_ret (g_var 1) fun v H' e hv => q v H' e.1 hv
theorem r_product (T : Tx fa fn ex K mg) {zs : List NK} (hz : (zs.map List.length).sum < 64) (hn : zs.length ≤ 64) : ∃ f, mg "product" = some (.ref f) ∧ PySem.W.keepIn K (.ref f) = true ∧ FnR P w K mg base CX0 5 f (fun vs H Q E => All2 (zs.map (numT K)) vs H ∧ ∀ v H', Ex H H' → numT K (prodK zs) v H' → Q v H') := by
  obtain ⟨fd, F⟩ := T.def_ d_product i_product
  obtain ⟨oc, od, dV, kV, doc, pm, an, cdv, ct, osl, efd, lk, hcd, hD, _⟩ := F.ex
  subst efd
  rcases hD with ⟨_, rfl⟩ | ⟨e, _⟩
  rotate_left
  · exact absurd rfl e
  refine ⟨_, T.glo _ q_glo_product, F.kp, FnR.imp (fn_star (ps := []) (pv := "numbers") (sp := spProd K zs) lk hcd sc_product (fun _ _ _ _ _ _ _ _ _ _ _ z => z) (fun us rest hl => match us, rest, hl with | [], [], _ => rfl | [], r :: rs, _ => rfl) fun A outer s H vs Q E hr hsp => ⟨_, (pb _).nox, product_body T hz hr hsp⟩) fun vs H Q E h => ?_⟩
  obtain ⟨h2, q⟩ := h
  refine ⟨[], vs, rfl, rfl, ?_, fun p hp => ⟨.ref p, rfl, ⟨p, vs, rfl, .inl upd_same, h2.up (Ex.new hp)⟩, fun v H' e hv => q v H' ((Ex.new hp).trans e) hv⟩⟩
  rw [← h2.len, List.length_map]
  exact Nat.le_trans hn (by decide)
theorem g_product (T : Tx fa fn ex K mg) {X : Cx} (hX : X.K = K ∧ X.mg = mg) {Γ : RL.Ctx} {e : Expr} {es : List Expr} {p pos : Pos} {zs : List NK} (hz : (zs.map List.length).sum < 64) (hn : zs.length ≤ 64) (ha : GA X Γ (e :: es) (zs.map (numT K))) (hr : Room 5 X.A) (hg : Gl X "product" := by rfl)
    (he : starEach (e :: es) X.env = (false, eval e X.env) :: starEach es X.env := by rfl) (hpl : (backTo pos (starEach es X.env)).any (·.1) = false := by rfl) (hdb : (("product" : Str) == ("__debug__" : Str)) = false := by decide) :
    G X Γ (.Call (.Name "product" p) (e :: es) [] pos) (numT K (prodK zs)) := fun σ H t Q k => by
  refine ⟨fun pins s I => ?_⟩
  obtain ⟨rfl, rfl⟩ := hX
  obtain ⟨f, hm, hk, F⟩ := r_product (P := X.prog) (w := X.w) (base := X.base) T hz hn
  refine wpAny_Call_Name_kw (ld_glob I hg hm ?_ hdb)
  have hA : tA X (e :: es) σ H fun vs H1 => All2 (zs.map (numT X.K)) vs H1 ∧ Ex H H1 := ha σ H t _ fun vs H1 e1 h1 => ⟨h1, e1⟩
  refine PySem.W.callWith_K (h₀ := X.base) I.ok.mod.kin hk (thn (hA.run pos pins s I) fun us s1 ⟨vs, H1, I1, r, h1, e1⟩ => ⟨I1.kIn, ?_⟩) he hpl
  exact wpAny_call (run_fnR F hr pass0 I1 r ⟨h1, fun v H' e hv => k v H' (e1.trans e) hv⟩)
end
end K05

set_option Elab.async false
set_option linter.all false
set_option maxRecDepth 100000
set_option maxHeartbeats 8000000
namespace K05
open PySem PySem.Spec PyProof.Rows L2 RL NM StX
section
variable {P : Program} {w : World} {K : PySem.W.Frag} {mg : Str → Option Value} {base : Heap}
/-- a choice below -/
abbrev Below (n : Int) := { r : Int // 0 ≤ r ∧ r < n }
abbrev choT (n : Int) : RL.Ty := exT fun r : Below n => intT r.1
abbrev Many := { n : Int // 0 < n ∧ n < 2 ^ 100 }
theorem sc_take : FnScope ["_law_bag_here", "_law_many", "_law_cell", "_law_mixed", "_law_found"] ["_law_bag_here", "_law_many"] (defScope s__law_take) := ⟨rfl, rfl, rfl, by decide +kernel, rfl, by decide +kernel, by decide +kernel⟩
theorem mod_lt {a : Int} {n : Int} (h : 0 < n) : 0 ≤ a % n ∧ a % n < n := ⟨Int.emod_nonneg _ (by omega), Int.emod_lt_of_pos _ h⟩
theorem bag_list {b row : Addr} {cells : List Int} {z : BagS} {v : V} {H : Hp} (h : mlT b (bagTs row cells z) v H) : H b = some (bagL row z) := by
  obtain ⟨_, vs, hb, h2⟩ := h
  obtain ⟨v0, v1, v2, v3, rfl, ⟨h0, _⟩, h1, h2, h3⟩ := all2_4 h2
  have h1' : v1 = V.int z.i := h1
  have h2' : v2 = V.int z.c := h2
  have h3' : v3 = V.int z.m := h3
  subst h0; subst h1'; subst h2'; subst h3'
  exact hb
/-- what is chosen, the bag closed behind it -/
theorem b_chosen {X : Cx} {Γ : RL.Ctx} {e : Expr} {b row : Addr} {cells : List Int} {z : BagS} {n r : Int} {H : Hp} {B : Bs} {D : Ends} {rest : List Stmt} {pos : Pos} {Q : VK} (hB : B.e = hide b H) (hb : H b = some (bagH b row)) (hz : z.ok) (h0 : Γ[0]? = some (some (mlT b (bagTs row cells z))))
    (he : G X Γ e (intT r)) (hr : 0 ≤ r ∧ r < n) (hD : D.rt = Q) (q : ∀ v H', Ex H H' → choT n v H' → Q v H') : Bd X Γ (.Return (some e) pos :: rest) B D :=
  b_retR he fun σ v H' ok t hv => by
    obtain ⟨v0, _, hv0⟩ := t.get 0 h0
    refine ⟨b, _, bagH b row, bag_list hv0, ⟨trivial, bag_close hz⟩, ?_⟩
    rw [hD]
    exact q _ _ (unhide (by rw [← hB]; exact ok.1) hb) ⟨⟨r, hr⟩, hv⟩
theorem f_take (T : Tx fa fn ex K mg) : FnG P w K mg base 1 "_law_take" ["_law_bag_here", "_law_many"] (spG (fun n : Many => [bagT, intT n.1]) fun n => choT n.1) := by
  refine T.fn d__law_take i__law_take "_law_take" rfl q_glo__law_take rfl (fun _ _ _ _ _ _ us hl => match us, hl with | [_, _], _ => rfl) fun f fd F => ?_
  refine fn_sp F sc_take (fun vs H Q E ⟨a, h2, _⟩ => h2.len.symm) fun cdv Ar outer s H vs Q E hr ⟨n, h2, q⟩ => ?_
  have nd : (BX P w K mg base ["_law_bag_here", "_law_many", "_law_cell", "_law_mixed", "_law_found"] d__law_take.qual d__law_take.scope f cdv Ar outer s H E).N.Nodup := by
    show List.Nodup [_, _, _, _, _]
    decide +kernel
  obtain ⟨n, hn0, hn1⟩ := n
  obtain ⟨v, y, rfl, ⟨b, row, cells, ev, hb, hrow⟩, hy⟩ := all2_2 h2
  · skip
    have hy' : y = V.int n := hy
    subst ev; subst hy'
    refine tB_open (u := fun z : { z : BagS // z.ok } => bagL row z.1) hb bag_open fun z => ?_
    obtain ⟨z, hz⟩ := z
    have hne : row ≠ b := fun e => by
      obtain ⟨o, h⟩ := hrow
      rw [e, hb] at h; cases h
    have t0 : Typed (L2.start ["_law_bag_here", "_law_many", "_law_cell", "_law_mixed", "_law_found"] [.ref b, .int n]) (ctx0 ["_law_bag_here", "_law_many", "_law_cell", "_law_mixed", "_law_found"] [mlT b (bagTs row cells z), intT n]) (upd H b (bagL row z)) :=
      typed0 ⟨⟨rfl, _, upd_same, ⟨⟨rfl, by obtain ⟨o, h⟩ := hrow; exact ⟨o, by rw [upd_ne hne]; exact h⟩⟩, rfl, rfl, rfl, trivial⟩⟩, rfl, trivial⟩
    suffices hB : Bd (BX P w K mg base ["_law_bag_here", "_law_many", "_law_cell", "_law_mixed", "_law_found"] d__law_take.qual d__law_take.scope f cdv Ar outer s H E) (ctx0 ["_law_bag_here", "_law_many", "_law_cell", "_law_mixed", "_law_found"] [mlT b (bagTs row cells z), intT n]) (defBody s__law_take) ⟨hide b H, upd H b (bagL row z)⟩ { nx := fun _ H' => Q .non H', rt := Q } from hB _ _ ⟨hide_ex, Le.refl _⟩ t0
    have hint := T.free _ q_free_int
    have hlen := T.free _ q_free_len
    have he : (⟨hide b H, upd H b (bagL row z)⟩ : Bs).e b = none := hide_none
    generalize hB : (⟨hide b H, upd H b (bagL row z)⟩ : Bs) = B at he
    have hBe : B.e = hide b H := by rw [← hB]
    -- behind the first if
    have fin : ∀ z : BagS, z.ok → Bd (BX P w K mg base ["_law_bag_here", "_law_many", "_law_cell", "_law_mixed", "_law_found"] d__law_take.qual d__law_take.scope f cdv Ar outer s H E) [some (mlT b (bagTs row cells z)), some (intT n), none, none, none] ((defBody s__law_take).drop 1) B { nx := fun _ H' => Q .non H', rt := Q } := fun z hz => by
      obtain ⟨z0, z1, z2, z3⟩ := hz
      refine b_if (gt_gt (g_ixL (T := intT z.c) (g_var 0).rlm g_int) g_int) (fun h => ?_) fun h => b_nil fun σ H1 e1 t1 => Bd.nx ?_ σ H1 e1 t1
      · refine b_asg 4 (g_mod (g_intI (g_ixL (T := intT z.c) (g_var 0).rlm g_int) hint) (g_var 1) hn0) ?_
        refine b_setL (T := intT (z.c / n)) 0 2 (by exact rfl) g_int (g_fdiv (k := 100) (g_ixL (T := intT z.c) (by exact (g_var 0).rlm) g_int) (g_var 1) hn0 (by omega)) (by exact rfl) he (by repeat (first | exact stbC_nil | refine stbC_none ?_ | refine stbC_some inferInstance ?_)) ?_
        exact b_chosen (z := ⟨z.i, z.c / n, z.m⟩) hBe hb ⟨z0, Int.ediv_nonneg z1 (by omega), z2, z3⟩ rfl (g_var 4) (mod_lt hn0) rfl q
      · have m1 := mod_lt (a := z.m * 48271009 + 31) (n := 2147483629) (by decide)
        generalize hm : (z.m * 48271009 + 31) % 2147483629 = m' at m1
        refine b_setL (T := intT m') 0 3 (by exact rfl) (by exact g_int) (by
          rw [← hm]
          exact g_mod (g_intI (g_add (g_mul (n := 64) (k := 64) (g_ixL (T := intT z.m) (g_var 0).rlm g_int) g_int (by omega) (by decide)) g_int) hint) g_int (by decide)) (by exact rfl) he (by repeat (first | exact stbC_nil | refine stbC_none ?_ | refine stbC_some inferInstance ?_)) ?_
        exact b_chosen (z := ⟨z.i, z.c, m'⟩) hBe hb ⟨z0, z1, m1.1, by show m' < _; omega⟩ rfl
          (g_mod (g_intI (g_fdiv (k := 64) (g_mod (g_intI (g_mul (n := 64) (k := 64) (g_ixL (T := intT m') (g_var 0).rlm g_int) (g_ixL (T := intT m') (g_var 0).rlm g_int) (by omega) (by omega)) hint) g_int (by decide)) g_int (by decide) (by decide)) hint) (g_var 1) hn0) (mod_lt hn0) rfl q
    obtain ⟨z0, z1, z2, z3⟩ := hz
    refine b_if (gt_and2 (gt_eqI (g_ixL (T := intT z.c) (g_var 0).rlm g_int) g_int) (fun _ => gt_lt (g_ixL (T := intT z.i) (g_var 0).rlm g_int) (g_lenRL (Ts := cells.map fun z => intT z) (((g_ixL (T := rowT row cells) (g_var 0).rlm g_int).imp fun _ _ h => row_lst h).rl) hlen))) (fun h => ?_) fun h => b_skip (fin z ⟨z0, z1, z2, z3⟩)
    have hi : z.i < (cells.length : Int) := by
      rw [Bool.and_eq_true, decide_eq_true_eq, decide_eq_true_eq, List.length_map] at h
      exact h.2
    have hi' : z.i.toNat < cells.length := by omega
    refine b_asg 2 (T := intT cells[z.i.toNat]) (g_ixL (Ts := cells.map fun z => intT z) (((g_ixL (T := rowT row cells) (g_var 0).rlm g_int).imp fun _ _ h => row_lst h).rl) (g_ixL (T := intT z.i) (g_var 0).rlm g_int) (by
      rw [atI_one z0 (by rw [List.length_map]; exact hi)]
      simp)) ?_
    generalize cells[z.i.toNat] = c
    refine b_setL (T := intT (z.i + 1)) 0 1 (by exact rfl) (by exact g_int) (by exact g_add (g_ixL (T := intT z.i) (g_var 0).rlm g_int) g_int) (by exact rfl) he (by repeat (first | exact stbC_nil | refine stbC_none ?_ | refine stbC_some inferInstance ?_)) ?_
    change Bd _ [some (mlT b (bagTs row cells ⟨z.i + 1, z.c, z.m⟩)), some (intT n), some (intT c), none, none] _ _ _
    refine b_if (gt_ge (g_var 2) (g_pow (i := 10) (j := 18) g_int g_int ⟨by decide, by decide, by decide⟩)) (fun h => ?_) fun h => ?_
    · refine b_setL (T := intT c) 0 2 (by exact rfl) (by exact g_int) (by exact g_var 2) (by exact rfl) he (by repeat (first | exact stbC_nil | refine stbC_none ?_ | refine stbC_some inferInstance ?_)) ?_
      have hc : 0 ≤ c := by
        rw [decide_eq_true_eq] at h
        have : (0 : Int) ≤ 10 ^ (18 : Int).toNat := by decide
        omega
      refine b_skip ?_
      refine b_skip ?_
      exact b_weak (fin ⟨z.i + 1, c, z.m⟩ ⟨by show 0 ≤ z.i + 1; omega, hc, z2, z3⟩) fun σ H1 t1 => t1.drop 2
    · refine b_asg 3 (g_add (g_mul (n := 64) (k := 64) (g_ixL (T := intT z.m) (g_var 0).rlm g_int) g_int (by omega) (by decide)) (g_mod (g_intI (g_var 2) hint) g_int (by decide))) ?_
      have m1 := mod_lt (a := z.m * 40031 + c % 1999999943 + (z.i + 1)) (n := 2147483629) (by decide)
      generalize hm : (z.m * 40031 + c % 1999999943 + (z.i + 1)) % 2147483629 = m' at m1
      refine b_setL (T := intT m') 0 3 (by exact rfl) (by exact g_int) (by
          rw [← hm]
          exact g_mod (g_intI (g_add (g_var 3) (g_ixL (T := intT (z.i + 1)) (g_var 0).rlm g_int)) hint) g_int (by decide)) (by exact rfl) he (by repeat (first | exact stbC_nil | refine stbC_none ?_ | refine stbC_some inferInstance ?_)) ?_
      refine b_skip ?_
      refine b_skip ?_
      exact b_weak (fin ⟨z.i + 1, z.c, m'⟩ ⟨by show 0 ≤ z.i + 1; omega, z1, m1.1, by show m' < _; omega⟩) fun σ H1 t1 => (t1.drop 2).drop 3
end
end K05

set_option Elab.async false
set_option linter.all false
set_option maxRecDepth 100000
set_option maxHeartbeats 8000000
namespace K05
open PySem PySem.Spec PyProof.Rows L2 RL NM StX
section
variable {P : Program} {w : World} {K : PySem.W.Frag} {mg : Str → Option Value} {base : Heap}
theorem sc_of : FnScope ["_law_bag_here", "_law_things"] ["_law_bag_here", "_law_things"] (defScope s__law_of) := ⟨rfl, rfl, rfl, by decide +kernel, rfl, by decide +kernel, by decide +kernel⟩
abbrev Few := { Ts : List RL.Ty // 0 < Ts.length ∧ Ts.length < 1000 }
theorem f_of (T : Tx fa fn ex K mg) : FnG P w K mg base 2 "_law_of" ["_law_bag_here", "_law_things"] (spG (fun Ts : Few => [bagT, lstT Ts.1]) fun Ts => oneT Ts.1) := by
  have FT : FnG P w K mg base 1 "_law_take" ["_law_bag_here", "_law_many"] _ := f_take T
  refine T.fn d__law_of i__law_of "_law_of" rfl q_glo__law_of rfl (fun _ _ _ _ _ _ us hl => match us, hl with | [_, _], _ => rfl) fun f fd F => ?_
  refine fn_G F sc_of (fun _ => rfl) fun z cdv Ar outer s H E hr nd D hD _ => ?_
  obtain ⟨Ts, h0, h1⟩ := z
  have b : (0 : Int) < (Ts.length : Int) ∧ (Ts.length : Int) < 2 ^ 100 := ⟨by omega, by omega⟩
  refine b_ret (g_ixLX (g_var 1).rl ((g_call FT hr ⟨(Ts.length : Int), b⟩ (ga_cons (g_var 0) (ga_cons (g_lenL (g_var 1) (T.free _ q_free_len)) ga_nil))).imp fun v H h => h)) hD
theorem sc_primesL : FnScope [] [] (defScope s__law_primes) := ⟨rfl, rfl, rfl, by decide +kernel, rfl, by decide +kernel, by decide +kernel⟩
def primesL : List Int := [2, 3, 5, 7, 11, 13, 101, 499, 997]
theorem f_primes (T : Tx fa fn ex K mg) : FnG P w K mg base 1 "_law_primes" [] (spG (fun _ : Unit => []) fun _ => lstT (primesL.map fun z => intT z)) := by
  refine T.fn d__law_primes i__law_primes "_law_primes" rfl q_glo__law_primes rfl (fun _ _ _ _ _ _ us hl => match us, hl with | [], _ => rfl) fun f fd F => ?_
  refine fn_G F sc_primesL (fun _ => rfl) fun z cdv Ar outer s H E hr nd D hD _ => ?_
  exact b_ret (g_lst (ga_cons g_int (ga_cons g_int (ga_cons g_int (ga_cons g_int (ga_cons g_int (ga_cons g_int (ga_cons g_int (ga_cons g_int (ga_cons g_int ga_nil)))))))))) hD
/-! the bag -/
theorem sc_bag : FnScope ["_law_script", "_law_row", "_law_mark", "_law_cell"] ["_law_script"] (defScope s__law_bag) := ⟨rfl, rfl, rfl, by decide +kernel, rfl, by decide +kernel, by decide +kernel⟩
theorem f_bag (T : Tx fa fn ex K mg) : FnG P w K mg base 1 "_law_bag" ["_law_script"] (spG (fun ns : List Int => [rlT K (ns.map fun z => intT z)]) fun _ => bagT) := by
  have hint := T.free _ q_free_int
  refine T.fn d__law_bag i__law_bag "_law_bag" rfl q_glo__law_bag rfl (fun _ _ _ _ _ _ us hl => match us, hl with | [_], _ => rfl) fun f fd F => ?_
  refine fn_G F sc_bag (fun _ => rfl) fun ns cdv Ar outer s H E hr nd D hD _ => ?_
  have hcut : cutT (ns.map fun z => intT z) none (some 63) = (ns.take 63).map fun z => intT z := by rw [cutT_to (by decide), List.map_take]; rfl
  refine b_asg 1 (T := lstT ((ns.take 63).map fun z => intT z)) (G.is (g_listL (g_cutTo (α := Unit) (n := fun _ => 63) (g_var 0) (g_int.un)) (T.free _ q_free_list)).one (by rw [hcut])) ?_
  refine b_asgX (F := fun z : { m : Int // 0 ≤ m ∧ m < 2 ^ 40 } => intT z.1) 2 (g_add g_int (g_mul (n := 64) (k := 64) g_int (g_lenL (g_var 1) (T.free _ q_free_len)) (by decide) ?_) |>.ofI ?_) fun z => ?_
  · rw [List.length_map]
    have := List.length_take_le 63 ns
    omega
  · rw [List.length_map]
    have := List.length_take_le 63 ns
    omega
  refine b_for (g := gName 3) (fun i Δ => ∃ (z : { m : Int // 0 ≤ m ∧ m < 2 ^ 40 }) (u : Option RL.Ty), Δ = [some (rlT K (ns.map fun z => intT z)), some (lstT ((ns.take 63).map fun z => intT z)), some (intT z.1), u]) (gi_list (g_var 1)) (pg_name nd rfl (Or.inl rfl)) ⟨z, none, rfl⟩ (fun H1 i T1 Δ b1 hT hΔ => ?_) fun Δ hΔ => ?_
  · obtain ⟨⟨z, z0, z1⟩, u, rfl⟩ := hΔ
    rw [List.getElem?_map] at hT
    cases hq : (ns.take 63)[i]? with
    | none => rw [hq] at hT; cases hT
    | some c =>
      rw [hq] at hT
      cases hT
      refine ⟨_, tgt_name, ?_⟩
      refine b_asg 2 (g_mod (g_intI (g_add (g_add (g_mul (n := 64) (k := 64) (g_var 2) g_int (by show z.natAbs < _; omega) (by decide)) (g_mod (g_intI (g_var 3) hint) g_int (by decide))) g_int) hint) g_int (by decide)) ?_
      have := mod_lt (a := z * 48611 + c % 2147483249 + 7) (n := 2147483587) (by decide)
      exact turn_nx ⟨⟨_, this.1, by omega⟩, _, rfl⟩
  · obtain ⟨⟨z, z0, z1⟩, u, rfl⟩ := hΔ
    refine b_cons fun σ H1 e1 t1 => toS (ps_ret (pe _)) (tE_retr (toE (pe_lst (pa _)) ?_))
    refine (ga_cons (g_var 1) (ga_cons g_int (ga_cons g_int (ga_cons (g_var 2) ga_nil)))) σ H1 t1 _ fun vs H2 e2 h2 => ⟨by rw [← h2.len]; show 4 ≤ sizeLine; decide, fun b hb => ?_⟩
    obtain ⟨v0, v1, v2, v3, rfl, ⟨row, ws, ev, hrow, hws⟩, h1, h2, h3⟩ := all2_4 h2
    · skip
      have h1' : v1 = V.int 0 := h1
      have h2' : v2 = V.int 0 := h2
      have h3' : v3 = V.int z := h3
      subst ev; subst h1'; subst h2'; subst h3'
      have hws' : ws = (ns.take 63).map V.int := All2.vals (H := H2) (by rw [List.map_map]; exact hws)
      subst hws'
      refine ⟨b, _, bagH b row, upd_same, ⟨trivial, bag_close (z := ⟨0, 0, z⟩) ⟨Int.le_refl _, Int.le_refl _, z0, z1⟩⟩, ?_⟩
      rw [upd_upd]
      refine hD _ _ (Bs.up e1 (e2.trans (Ex.new hb))) ⟨b, row, ns.take 63, rfl, upd_same, ?_⟩
      obtain ⟨o, ho⟩ := hrow
      exact ⟨o, by rw [upd_ne (ne_of_none ho hb)]; exact ho⟩
end
end K05

set_option Elab.async false
set_option linter.all false
set_option maxRecDepth 100000
set_option maxHeartbeats 8000000
namespace K05
open PySem PySem.Spec PyProof.Rows L2 RL NM StX
section
variable {P : Program} {w : World} {K : PySem.W.Frag} {mg : Str → Option Value} {base : Heap}
structure PowOk (l : NK) : Prop where
  ok : PairsOk l
  few : l.length ≤ 9
  low : ∀ q ∈ l, q.2 < 2 ^ 100
abbrev Pows := { l : NK // PowOk l }
structure PwI (i : Nat) (l : NK) : Prop where
  asc : (l.map (·.1)).Pairwise (· < ·)
  low : ∀ q ∈ l, 0 < q.2 ∧ q.2 < 2 ^ 100
  sub : ∀ q ∈ l, q.1 ∈ primesL.take i
  few : l.length ≤ i
theorem primesL_asc : primesL.Pairwise (· < ·) := by decide
theorem primesL_pr : ∀ p ∈ primesL, 0 < p ∧ p < 1000 ∧ isPB p = true := by decide +kernel
theorem PwI.next {i : Nat} {l : NK} (h : PwI i l) : PwI (i + 1) l := ⟨h.asc, h.low, fun q hq => by
  rw [List.take_succ]
  exact List.mem_append_left _ (h.sub q hq), Nat.le_succ_of_le h.few⟩
theorem PwI.lt {i : Nat} {l : NK} {p : Int} (h : PwI i l) (hp : primesL[i]? = some p) : ∀ q ∈ l, q.1 < p := fun q hq => by
  have hs : primesL.take i ++ primesL.drop i = primesL := List.take_append_drop i primesL
  have hd : p ∈ primesL.drop i := by
    have : (primesL.drop i)[0]? = some p := by rw [List.getElem?_drop]; simpa using hp
    exact List.mem_of_getElem? this
  have ha := primesL_asc
  rw [← hs] at ha
  exact (List.pairwise_append.mp ha).2.2 q.1 (h.sub q hq) p hd
theorem PwI.put {i : Nat} {l : NK} {p e : Int} (h : PwI i l) (hp : primesL[i]? = some p) (he : 0 < e ∧ e < 2 ^ 100) : PwI (i + 1) (l ++ [(p, e)]) := by
  have hlt := h.lt hp
  refine ⟨?_, fun q hq => ?_, fun q hq => ?_, ?_⟩
  · rw [List.map_append]
    refine List.pairwise_append.mpr ⟨h.asc, by simp, fun a ha b hb => ?_⟩
    obtain ⟨q, hq, rfl⟩ := List.mem_map.mp ha
    simp only [List.map_cons, List.map_nil, List.mem_singleton] at hb
    subst hb
    exact hlt q hq
  · rcases List.mem_append.mp hq with hq | hq
    · exact h.low q hq
    · rw [List.mem_singleton.mp hq]; exact he
  · rw [List.take_succ, hp]
    rcases List.mem_append.mp hq with hq | hq
    · exact List.mem_append_left _ (h.sub q hq)
    · rw [List.mem_singleton.mp hq]
      exact List.mem_append_right _ (by simp)
  · rw [List.length_append]
    have := h.few
    simp only [List.length_cons, List.length_nil]
    omega
theorem PwI.ok {i : Nat} {l : NK} (h : PwI i l) (hi : i ≤ 9) : PowOk l := by
  have hf := h.few
  refine ⟨⟨h.asc, fun q hq => (h.low q hq).1, fun q hq => primesL_pr _ (List.mem_of_mem_take (h.sub q hq)), by omega⟩, by omega, fun q hq => (h.low q hq).2⟩
theorem sc_powers : FnScope ["_law_bag_here", "_law_most", "_law_top", "_law_found", "_law_prime"] ["_law_bag_here", "_law_most", "_law_top"] (defScope s__law_some_powers) := ⟨rfl, rfl, rfl, by decide +kernel, rfl, by decide +kernel, by decide +kernel⟩
theorem f_powers (T : Tx fa fn ex K mg) : FnG P w K mg base 3 "_law_some_powers" ["_law_bag_here", "_law_most", "_law_top"] (spG (fun z : Int × Many => [bagT, intT z.1, intT z.2.1]) fun _ => exT fun l : Pows => dicT (kvN l.1)) := by
  have FT : FnG P w K mg base 1 "_law_take" ["_law_bag_here", "_law_many"] _ := f_take T
  have FO : FnG P w K mg base 2 "_law_of" ["_law_bag_here", "_law_things"] _ := f_of T
  have FP : FnG P w K mg base 1 "_law_primes" [] _ := f_primes T
  refine T.fn d__law_some_powers i__law_some_powers "_law_some_powers" rfl q_glo__law_some_powers rfl (fun _ _ _ _ _ _ us hl => match us, hl with | [_, _, _], _ => rfl) fun f fd F => ?_
  refine fn_G F sc_powers (fun _ => rfl) fun z cdv Ar outer s H E hr nd D hD _ => ?_
  obtain ⟨most, top, t0, t1⟩ := z
  refine b_newD 3 fun a ha => ?_
  refine b_forX (β := { i : Int // 0 ≤ i }) (Ts := fun z => cutT (primesL.map fun z => intT z) none (some z.1)) (g := gName 4)
    (fun z i Δ => ∃ (l : NK) (u : Option RL.Ty), PwI i l ∧ Δ = [some bagT, some (intT most), some (intT top), some (mdT a (kvN l)), u]) (gix_list (hS := fun z => by rw [cutT_to z.2, ← List.map_take]; infer_instance) (g_cutTo (g_call0 FP (hr.mono (by decide)) ()).rl ?_)) (pg_name nd rfl (Or.inl rfl))
    (fun z => ⟨[], none, ⟨by simp, by simp, by simp, Nat.le_refl _⟩, rfl⟩) (fun z H1 i T1 Δ b1 hT hΔ => ?_) fun z Δ hΔ => ?_
  · exact G.imp (g_call FO hr ⟨([2, 3, 4, 9] : List Int).map fun z => intT z, by decide, by decide⟩ (ga_cons (g_var 0) (ga_cons (g_lst (ga_cons g_int (ga_cons g_int (ga_cons g_int (ga_cons g_int ga_nil))))) ga_nil))) fun v H hv => one_in (p := fun i => 0 ≤ i) (by decide) hv
  · obtain ⟨l, u, hl, rfl⟩ := hΔ
    have hT' : ((primesL.take z.1.toNat).map fun z => intT z)[i]? = some T1 := by rw [← hT, cutT_to z.2, List.map_take]
    rw [List.getElem?_map] at hT'
    cases hq : (primesL.take z.1.toNat)[i]? with
    | none => rw [hq] at hT'; cases hT'
    | some p =>
      rw [hq] at hT'
      cases hT'
      have hp : primesL[i]? = some p := by
        rw [List.getElem?_take] at hq
        split at hq
        · exact hq
        · cases hq
      have hi : i < 9 := (List.getElem?_eq_some_iff.mp hp).1
      refine ⟨_, tgt_name, ?_⟩
      have hr1 := hr.mono (j := 1) (by decide)
      refine b_ifP (p := fun _ => True) ((gp_and2 (gt_lt (g_lenR (g_var 3).rdm (T.free _ q_free_len)) (g_var 1)).gp fun _ => gp_gt (k := fun _ => True) (g_call FT hr1 ⟨3, by decide⟩ (ga_cons (g_var 0) (ga_cons g_int ga_nil))) (g_int.ofI (p := fun _ => True) trivial) (fun _ _ _ _ => trivial)).any) (fun _ => ?_) fun _ => (by
        refine b_skip ?_
        exact turn_nx ⟨l, _, hl.next, rfl⟩)
      refine b_dputX (β := { e : Int // 0 < e ∧ e < 2 ^ 100 }) (F := fun e => .int e.1) 3 (kk := Sum.inl p) (by exact rfl) (by exact g_var 4) (by exact gx_add (g_int.ofI (p := fun i => i = 1) rfl) (g_call FT hr1 ⟨top, t0, t1⟩ (ga_cons (g_var 0) (ga_cons (g_var 2) ga_nil))) (fun i j hi hj => by
        have hj2 : j < top := hj.2
        omega)) (by exact ha) ?_ (by repeat (first | exact stbC_nil | refine stbC_none ?_ | refine stbC_some inferInstance ?_)) (by exact hu_of hr) fun e => ?_
      · unfold kvN
        rw [List.length_map]
        exact Nat.lt_of_le_of_lt hl.few (Nat.lt_trans hi (by decide))
      refine b_skip ?_
      refine turn_nx ⟨l ++ [(p, e.1)], some (intT p), hl.put hp ⟨e.2.1, ?_⟩, ?_⟩
      · exact e.2.2
      · rw [← put_kvN (l := l) (q := (p, e.1)) fun hm => by
          obtain ⟨q, hq, e⟩ := List.mem_map.mp hm
          have := hl.lt hp q hq
          omega]
        rfl
  · obtain ⟨l, u, hl, rfl⟩ := hΔ
    refine b_weak (Δ := [some bagT, some (intT most), some (intT top), some (mdT a (kvN l)), none]) ?_ fun σ H1 t1 => t1.drop 4
    refine b_frzD 3 rfl ha (by repeat (first | exact stbC_nil | refine stbC_none ?_ | refine stbC_some inferInstance ?_)) ?_
    refine b_ret ((g_var 3).ex ⟨l, hl.ok ?_⟩) hD
    have : (cutT (primesL.map fun z => intT z) none (some z.1)).length ≤ 9 := by
      rw [cutT_to z.2, List.length_take]
      exact Nat.min_le_right _ _
    exact this
end
end K05

set_option Elab.async false
set_option linter.all false
set_option maxRecDepth 100000
set_option maxHeartbeats 400000
namespace K05
open PySem PySem.Spec PyProof.Rows L2 RL NM StX
/-! plain laws of numbers -/
section
variable {a b c : NK}
theorem look_mul (ca : Canon a) (cb : Canon b) (p : Int) : look (opK f_mul a b) p = look a p + look b p := opK_look (f := f_mul) rfl (fun p => by
  have := ca.nonneg p
  have := cb.nonneg p
  show 0 ≤ look a p + look b p
  omega) p
theorem look_and (ca : Canon a) (cb : Canon b) (p : Int) : look (opK f_and a b) p = if look b p < look a p then look b p else look a p := opK_look (f := f_and) (by decide) (fun p => by
  have := ca.nonneg p
  have := cb.nonneg p
  show 0 ≤ if look b p < look a p then look b p else look a p
  split <;> omega) p
theorem look_or (ca : Canon a) (cb : Canon b) (p : Int) : look (opK f_or a b) p = if look b p > look a p then look b p else look a p := opK_look (f := f_or) (by decide) (fun p => by
  have := ca.nonneg p
  have := cb.nonneg p
  show 0 ≤ if look b p > look a p then look b p else look a p
  split <;> omega) p
theorem dvdK_iff (ca : Canon a) (cb : Canon b) : dvdK a b = true ↔ ∀ p, look a p ≤ look b p := by
  unfold dvdK
  rw [List.all_map, List.all_eq_true]
  constructor
  · intro h p
    by_cases m : p ∈ a.map (·.1)
    · have := h p m
      simpa using this
    · rw [look_none m]
      exact cb.nonneg p
  · intro h p _
    simpa using h p
theorem mul_comm' (ca : Canon a) (cb : Canon b) : opK f_mul a b = opK f_mul b a := canon_ext (opK_canon _ _ _) (opK_canon _ _ _) fun p => by rw [look_mul ca cb, look_mul cb ca]; omega
theorem mul_assoc' (ca : Canon a) (cb : Canon b) (cc : Canon c) : opK f_mul (opK f_mul a b) c = opK f_mul a (opK f_mul b c) := canon_ext (opK_canon _ _ _) (opK_canon _ _ _) fun p => by
  rw [look_mul (opK_canon _ _ _) cc, look_mul ca cb, look_mul ca (opK_canon _ _ _), look_mul cb cc]; omega
theorem and_mul_or (ca : Canon a) (cb : Canon b) : opK f_mul (opK f_and a b) (opK f_or a b) = opK f_mul a b := canon_ext (opK_canon _ _ _) (opK_canon _ _ _) fun p => by
  rw [look_mul (opK_canon _ _ _) (opK_canon _ _ _), look_and ca cb, look_or ca cb, look_mul ca cb]
  split <;> split <;> omega
theorem dvd_mulR (ca : Canon a) (cb : Canon b) : dvdK b (opK f_mul a b) = true := (dvdK_iff cb (opK_canon _ _ _)).mpr fun p => by
  rw [look_mul ca cb]
  have := ca.nonneg p
  omega
theorem dvd_mulL (ca : Canon a) (cb : Canon b) : dvdK a (opK f_mul a b) = true := (dvdK_iff ca (opK_canon _ _ _)).mpr fun p => by
  rw [look_mul ca cb]
  have := cb.nonneg p
  omega
theorem overK_canon (a b : NK) : Canon (overK a b) := normK_canon _
theorem raisedK_canon (a : NK) (t : Int) : Canon (raisedK a t) := normK_canon _
theorem over_mulR (ca : Canon a) (cb : Canon b) : overK (opK f_mul a b) b = a := canon_ext (overK_canon _ _) ca fun p => by
  rw [overK_look (opK_canon _ _ _) (fun p => by rw [look_mul ca cb]; have := ca.nonneg p; omega) cb, look_mul ca cb]
  omega
theorem over_mulL (ca : Canon a) (cb : Canon b) : overK (opK f_mul a b) a = b := by rw [mul_comm' ca cb]; exact over_mulR cb ca
theorem and_or (ca : Canon a) (cb : Canon b) : opK f_and a (opK f_or a b) = a := canon_ext (opK_canon _ _ _) ca fun p => by
  rw [look_and ca (opK_canon _ _ _), look_or ca cb]
  split <;> split at * <;> omega
theorem or_and (ca : Canon a) (cb : Canon b) : opK f_or a (opK f_and a b) = a := canon_ext (opK_canon _ _ _) ca fun p => by
  rw [look_or ca (opK_canon _ _ _), look_and ca cb]
  split <;> split at * <;> omega
theorem or_and_dist (ca : Canon a) (cb : Canon b) (cc : Canon c) : opK f_and (opK f_or a b) c = opK f_or (opK f_and a c) (opK f_and b c) := canon_ext (opK_canon _ _ _) (opK_canon _ _ _) fun p => by
  rw [look_and (opK_canon _ _ _) cc, look_or ca cb, look_or (opK_canon _ _ _) (opK_canon _ _ _), look_and ca cc, look_and cb cc]
  generalize look a p = x
  generalize look b p = y
  generalize look c p = z
  by_cases h1 : y > x <;> by_cases h2 : z < x <;> by_cases h3 : z < y <;> simp only [h1, h2, h3, if_true, if_false] <;> (try split) <;> omega
theorem dvd_and (ca : Canon a) (cb : Canon b) : dvdK a b = decide (opK f_and a b = a) := by
  rw [Bool.eq_iff_iff, dvdK_iff ca cb, decide_eq_true_eq]
  constructor
  · intro h
    refine canon_ext (opK_canon _ _ _) ca fun p => ?_
    rw [look_and ca cb]
    have := h p
    split <;> omega
  · intro h p
    have := look_and ca cb p
    rw [h] at this
    split at this <;> omega
theorem dvd_or (ca : Canon a) (cb : Canon b) : dvdK a b = decide (opK f_or a b = b) := by
  rw [Bool.eq_iff_iff, dvdK_iff ca cb, decide_eq_true_eq]
  constructor
  · intro h
    refine canon_ext (opK_canon _ _ _) cb fun p => ?_
    rw [look_or ca cb]
    have := h p
    split <;> omega
  · intro h p
    have := look_or ca cb p
    rw [h] at this
    split at this <;> omega
theorem canon_nil : Canon [] := ⟨.nil, fun q h => by simp at h⟩
theorem mul_nil (ca : Canon a) : opK f_mul a [] = a := canon_ext (opK_canon _ _ _) ca fun p => by rw [look_mul ca canon_nil]; show look a p + 0 = look a p; omega
theorem nil_mul (ca : Canon a) : opK f_mul [] a = a := by rw [mul_comm' canon_nil ca, mul_nil ca]
theorem over_self (ca : Canon a) : overK a a = [] := canon_ext (overK_canon _ _) canon_nil fun p => by
  rw [overK_look ca (fun p => Int.le_refl _) ca]
  show look a p - look a p = 0
  omega
theorem dvd_self (ca : Canon a) : dvdK a a = true := (dvdK_iff ca ca).mpr fun p => Int.le_refl _
theorem prod3 (a : NK) : prodK [a, a, a] = opK f_mul (opK f_mul (opK f_mul [] a) a) a := by
  unfold prodK
  simp only [List.foldl_cons, List.foldl_nil]
theorem raised3 (ca : Canon a) : raisedK a 3 = prodK [a, a, a] := by
  rw [prod3, nil_mul ca]
  refine canon_ext (raisedK_canon _ _) (opK_canon _ _ _) fun p => ?_
  rw [raisedK_look ca (by decide), look_mul (opK_canon _ _ _) ca, look_mul ca ca]
  omega
theorem raised_mul (ca : Canon a) (cb : Canon b) : raisedK (opK f_mul a b) 5 = opK f_mul (raisedK a 5) (raisedK b 5) := canon_ext (raisedK_canon _ _) (opK_canon _ _ _) fun p => by
  rw [raisedK_look (opK_canon _ _ _) (by decide), look_mul ca cb, look_mul (raisedK_canon _ _) (raisedK_canon _ _), raisedK_look ca (by decide), raisedK_look cb (by decide)]
  omega
theorem keys_pos (c : Canon a) {p : Int} (h : p ∈ a.map (·.1)) : 0 < look a p := c.look_pos.mpr h
theorem nodup_len {x y : List Int} (nd : x.Nodup) (h : ∀ p ∈ x, p ∈ y) : x.length ≤ y.length := by
  induction x generalizing y with
  | nil => simp
  | cons p r ih =>
    obtain ⟨h1, h2⟩ := List.nodup_cons.mp nd
    have hp := h p List.mem_cons_self
    have := ih (y := y.erase p) h2 fun q hq => (List.mem_erase_of_ne (by rintro rfl; exact h1 hq)).mpr (h q (List.mem_cons_of_mem _ hq))
    rw [List.length_erase_of_mem hp] at this
    have : 0 < y.length := List.length_pos_of_mem hp
    rw [List.length_cons]
    omega
theorem and_len (ca : Canon a) (cb : Canon b) : (opK f_and a b).length ≤ a.length ∧ (opK f_and a b).length ≤ b.length := by
  have nd := (opK_canon f_and a b).nodup
  have hk : ∀ p ∈ (opK f_and a b).map (·.1), p ∈ a.map (·.1) ∧ p ∈ b.map (·.1) := fun p hp => by
    have := keys_pos (opK_canon f_and a b) hp
    rw [look_and ca cb] at this
    have := ca.nonneg p
    have := cb.nonneg p
    exact ⟨ca.look_pos.mp (by split at * <;> omega), cb.look_pos.mp (by split at * <;> omega)⟩
  have h1 := nodup_len nd fun p hp => (hk p hp).1
  have h2 := nodup_len nd fun p hp => (hk p hp).2
  simp only [List.length_map] at h1 h2
  exact ⟨h1, h2⟩
/-- an exponent of a number is what it is looked up as -/
theorem exp_low (ca : Canon a) {n : Int} (h : ∀ p, look a p < n) : ∀ q ∈ a, q.2 < n := fun q hq => by
  have := h q.1
  rwa [look_mem ca.nodup hq] at this
theorem look_low (h0 : ∀ q ∈ a, q.2 < 2 ^ 100) (p : Int) : look a p < 2 ^ 100 := by
  by_cases m : p ∈ a.map (·.1)
  · induction a with
    | nil => simp at m
    | cons r a ih =>
      rw [look_cons]
      split
      · exact h0 r List.mem_cons_self
      · rename_i hne
        rw [List.map_cons, List.mem_cons] at m
        rcases m with m | m
        · exact absurd m.symm hne
        · exact ih (fun q hq => h0 q (List.mem_cons_of_mem _ hq)) m
  · rw [look_none m]; decide
theorem look_append (l r : NK) (p : Int) : look (l ++ r) p = if p ∈ l.map (·.1) then look l p else look r p := by
  induction l with
  | nil => simp
  | cons q l ih =>
    rw [List.cons_append, look_cons, look_cons, ih, List.map_cons]
    by_cases h : q.1 = p
    · rw [if_pos h, if_pos (by rw [h]; exact List.mem_cons_self), if_pos h]
    · have h' : ¬ p = q.1 := fun e => h e.symm
      rw [if_neg h]
      simp only [List.mem_cons, h', false_or, if_neg h]
theorem opK_snoc {l : NK} {q : Int × Int} (cl : Canon l) (cq : Canon [q]) (c : Canon (l ++ [q])) : opK f_mul l [q] = l ++ [q] := canon_ext (opK_canon _ _ _) c fun p => by
  rw [look_mul cl cq, look_append]
  by_cases m : p ∈ l.map (·.1)
  · rw [if_pos m]
    have : p ≠ q.1 := fun e => by
      have nd := c.nodup
      rw [List.map_append, List.nodup_append] at nd
      exact nd.2.2 p m q.1 (by simp) e
    rw [look_cons, if_neg (fun e => this e.symm)]
    show look l p + 0 = _
    omega
  · rw [if_neg m, look_none m]
    omega
theorem raised_len (a : NK) (t : Int) : (raisedK a t).length ≤ a.length := by
  unfold raisedK
  refine Nat.le_trans (normK_len _) ?_
  rw [List.length_map]
  exact Nat.le_refl _
end
theorem pow_low {a : NK} (h : PowOk a) : ∀ q ∈ a, q.2.natAbs < 2 ^ 1000 := fun q hq => by
  have h1 := h.ok.pos q hq
  have h2 := h.low q hq
  have h3 : (2 : Nat) ^ 100 ≤ 2 ^ 1000 := Nat.pow_le_pow_right (by decide) (by decide)
  have h4 : q.2.natAbs < 2 ^ 100 := by omega
  exact Nat.lt_of_lt_of_le h4 h3
theorem mul_low {a b : NK} (ha : PowOk a) (hb : PowOk b) : ∀ q ∈ opK f_mul a b, q.2.natAbs < 2 ^ 1000 := fun q hq => by
  have h0 := (opK_canon f_mul a b).pos q hq
  have e := look_mem (opK_canon f_mul a b).nodup hq
  rw [look_mul ha.ok.canon hb.ok.canon] at e
  have h1 := look_low ha.low q.1
  have h2 := look_low hb.low q.1
  have h3 : (2 : Nat) ^ 102 ≤ 2 ^ 1000 := Nat.pow_le_pow_right (by decide) (by decide)
  have h4 : q.2.natAbs < 2 ^ 102 := by omega
  exact Nat.lt_of_lt_of_le h4 h3
end K05

set_option Elab.async false
set_option linter.all false
set_option maxRecDepth 100000
set_option maxHeartbeats 8000000
namespace K05
open PySem PySem.Spec PyProof.Rows L2 RL NM StX
section
variable {P : Program} {w : World} {K : PySem.W.Frag} {mg : Str → Option Value} {base : Heap}
theorem sc_madeL : FnScope ["_law_powers", "_law_found", "_law_prime"] ["_law_powers"] (defScope s__law_made) := ⟨rfl, rfl, rfl, by decide +kernel, rfl, by decide +kernel, by decide +kernel⟩
theorem pairsOk_take {l : NK} (h : PairsOk l) (i : Nat) : PairsOk (l.take i) := ⟨by rw [List.map_take]; exact (h.asc.take), fun q hq => h.pos q (List.mem_of_mem_take hq), fun q hq => h.pr q (List.mem_of_mem_take hq), Nat.lt_of_le_of_lt (by rw [List.length_take]; exact Nat.min_le_right _ _) h.len⟩
theorem pairsOk_one {l : NK} (h : PairsOk l) {q : Int × Int} (hq : q ∈ l) : PairsOk [q] := ⟨by simp, fun r hr => by rw [List.mem_singleton.mp hr]; exact h.pos q hq, fun r hr => by rw [List.mem_singleton.mp hr]; exact h.pr q hq, by show 1 < 64; decide⟩
theorem f_made (T : Tx fa fn ex K mg) : FnG P w K mg base 5 "_law_made" ["_law_powers"] (spG (fun l : { l : NK // PairsOk l } => [dicT (kvN l.1)]) fun l => numT K l.1) := by
  refine T.fn d__law_made i__law_made "_law_made" rfl q_glo__law_made rfl (fun _ _ _ _ _ _ us hl => match us, hl with | [_], _ => rfl) fun f fd F => ?_
  refine fn_G F sc_madeL (fun _ => rfl) fun z cdv Ar outer s H E hr nd D hD _ => ?_
  obtain ⟨l, hl⟩ := z
  refine b_asg 1 (g_number0 T ⟨rfl, rfl⟩ hr) ?_
  refine b_for (Ts := (l.map (·.1)).map fun z => intT z) (g := gName 2) (fun i Δ => ∃ u, Δ = [some (dicT (kvN l)), some (numT K (l.take i)), u]) (gi_list (g_sortedL (ks := l.map (·.1)) ((g_listD (g_var 0) (T.free _ q_free_list)).is (by unfold kvN; rw [List.map_map, List.map_map]; rfl)) (T.free _ q_free_sorted) (l.map (·.1)) fun zs hp hs => (sortU_perm hp hs hl.canon.nodup).trans (sortU_is hl.asc (fun _ => Iff.rfl)).symm)) (pg_name nd rfl (Or.inl rfl)) ⟨none, rfl⟩ (fun H1 i T1 Δ b1 hT hΔ => ?_) fun Δ hΔ => ?_
  · obtain ⟨u, rfl⟩ := hΔ
    rw [List.map_map, List.getElem?_map] at hT
    cases hq : l[i]? with
    | none => rw [hq] at hT; cases hT
    | some q =>
      rw [hq] at hT
      cases hT
      have hmem : q ∈ l := List.mem_of_getElem? hq
      have hlook : valV (kvN l) (Sum.inl q.1 : Key) = some (.int q.2) := by rw [kvN_val' (List.mem_map_of_mem hmem), look_mem hl.canon.nodup hmem]
      have htake : l.take (i + 1) = l.take i ++ [q] := by rw [List.take_succ, hq]; rfl
      have hil : i < l.length := (List.getElem?_eq_some_iff.mp hq).1
      refine ⟨_, tgt_name, ?_⟩
      refine b_if ((gt_gt (g_ixd (k := Sum.inl q.1) (hu_of hr) (g_var 0) (g_var 2) hlook) g_int).is (b' := true) (by simpa using hl.pos q hmem)) (fun _ => ?_) fun h => by cases h
      refine b_asg 1 (g_mulN (x := l.take i) (y := [q]) T ⟨rfl, rfl⟩ hr (by rw [List.length_take]; have := hl.len; simp only [List.length_cons, List.length_nil]; omega) (g_var 1) (g_number1 T ⟨rfl, rfl⟩ (pairsOk_one hl hmem) (g_tup (ga_cons (g_var 2) (ga_cons (g_ixd (k := Sum.inl q.1) (hu_of hr) (g_var 0) (g_var 2) hlook) ga_nil)) (hl := by show 2 ≤ sizeLine; decide)) hr)) ?_
      refine b_skip ?_
      refine turn_nx ⟨some (intT q.1), ?_⟩
      rw [opK_snoc (pairsOk_take hl i).canon (pairsOk_one hl hmem).canon (by rw [← htake]; exact (pairsOk_take hl (i + 1)).canon), ← htake]
      rfl
  · obtain ⟨u, rfl⟩ := hΔ
    rw [List.length_map, List.length_map, List.take_length]
    exact b_ret (g_var 1) hD
end
end K05

set_option Elab.async false
set_option linter.all false
set_option maxRecDepth 100000
set_option maxHeartbeats 8000000
namespace K05
open PySem PySem.Spec PyProof.Rows L2 RL NM StX
section
variable {P : Program} {w : World} {K : PySem.W.Frag} {mg : Str → Option Value} {base : Heap}
section
variable {X : Cx} {Γ : RL.Ctx} {a b e : Expr} {pos p : Pos} {x y : NK}
theorem g_orN (T : Tx fa fn ex K mg) (hX : X.K = K ∧ X.mg = mg) (hr : Room 4 X.A) (hz : x.length + y.length < 64) (ha : G X Γ a (numT K x)) (hb : G X Γ b (numT K y)) : G X Γ (.BinOp a .BitOr b pos) (numT K (opK f_or x y)) := by
  obtain ⟨rfl, rfl⟩ := hX
  have F : MtG X.prog X.w X.K X.mg X.base 4 (NamesC X.K numCs) "__or__" ["self", "other"] _ := m_or T
  refine g_op (op_ownOr (fam T) F hr (by rintro D ⟨z, hz, rfl⟩; exact rors_of (exr T z hz))) ha hb fun v w H hv hw Q q => ⟨num_any hv, num_any hw, ⟨(x, y), hz⟩, ⟨hv, hw, trivial⟩, q⟩
theorem gt_neF (T : Tx fa fn ex K mg) (hX : X.K = K ∧ X.mg = mg) (hr : Room 3 X.A) (h : x = y) (hx : CmpN x) (ha : G X Γ a (numT K x)) (hb : G X Γ b (numT K y)) : GT X Γ (.Compare a [.NotEq] [b] pos) false :=
  (gt_neN T hX hr hx (h ▸ hx) ha hb).is (by simp [h])
theorem gt_neB {i j : Bool} (h : i = j) (ha : G X Γ a (blT i)) (hb : G X Γ b (blT j)) : GT X Γ (.Compare a [.NotEq] [b] pos) false :=
  gt_cmp op_ne ha hb (fun x y H hx hy Q q => by
    have hx' : x = .bl i := hx
    have hy' : y = .bl j := hy
    subst hx'; subst hy'; subst h
    exact ⟨rfl, q _ H (Ex.refl H) (by show V.bl _ = V.bl _; simp)⟩) (nomark _)
theorem g_lenN (T : Tx fa fn ex K mg) (hX : X.K = K ∧ X.mg = mg) (hr : Room 2 X.A) (hz : x.length < 64) (h : G X Γ e (numT K x)) (hg : Gl X "len" := by rfl) (he : starEach [e] X.env = (false, eval e X.env) :: starEach [] X.env := by exact se_cons rfl) : G X Γ (.Call (.Name "len" p) [e] [] pos) (intT x.length) := by
  obtain ⟨rfl, rfl⟩ := hX
  have F : MtG X.prog X.w X.K X.mg X.base 1 (NamesC X.K numCs) "__len__" ["self"] _ := m_len T
  exact g_callB (call_lenO F hr) (T.free _ q_free_len) (by decide +kernel) (ga_cons h ga_nil he) (fun vs H h2 Q q => by
    obtain ⟨v, ev, hv⟩ := one2 h2
    subst ev
    exact ⟨v, rfl, num_any hv, x, ⟨hv, trivial⟩, fun v' H' e' h' => ⟨_, h', by omega, by omega, q _ _ e' rfl⟩⟩) hg (he := he)
end
theorem sc_law : FnScope ["_law_script", "_law_bag_here", "_law_turn", "_law_a", "_law_b", "_law_c", "_law_k"] ["_law_script"] (defScope s_law) := ⟨rfl, rfl, rfl, by decide +kernel, rfl, by decide +kernel, by decide +kernel⟩
abbrev anyN (K : PySem.W.Frag) : RL.Ty := exT fun l : Pows => numT K l.1
theorem ok_law (T : Tx fa fn ex K mg) {f : Addr} {fd : FuncData} (F : FunD K d_law.name d_law.qual d_law.params d_law.body d_law.scope [] (d_law.kws K) f fd) : FnOk P w K mg base CX0 6 f fd ["_law_script"] (spG (fun ns : List Int => [rlT K (ns.map fun z => intT z)]) fun _ => blT true) := by
  have FB : FnG P w K mg base 1 "_law_bag" ["_law_script"] _ := f_bag T
  have FO : FnG P w K mg base 2 "_law_of" ["_law_bag_here", "_law_things"] _ := f_of T
  have FP : FnG P w K mg base 3 "_law_some_powers" ["_law_bag_here", "_law_most", "_law_top"] _ := f_powers T
  have FM : FnG P w K mg base 5 "_law_made" ["_law_powers"] _ := f_made T
  have FD : MtG P w K mg base 2 (NamesC K numCs) "divides" ["self", "other"] _ := m_divides T
  have FV : MtG P w K mg base 4 (NamesC K numCs) "over" ["self", "other"] _ := m_over T
  have FR : MtG P w K mg base 4 (NamesC K numCs) "raised" ["self", "times"] _ := m_raised T
  refine fn_G F sc_law (fun _ => rfl) fun ns cdv Ar outer s H E hr nd D hD _ => ?_
  have hr4 := hr.mono (j := 4) (by decide)
  have hr3 := hr.mono (j := 3) (by decide)
  have hr2 := hr.mono (j := 2) (by decide)
  refine b_asg 1 (g_call FB (hr.mono (by decide)) ns (ga_cons (g_var 0) ga_nil)) ?_
  refine b_for (g := gName 2) (fun i Δ => ∃ u2 u3 u4 u5, Δ = [some (rlT K (ns.map fun z => intT z)), some bagT, u2, u3, u4, u5, none]) (gi_rng1 g_int (T.free _ q_free_range)) (pg_name nd rfl (Or.inl rfl)) ⟨none, none, none, none, rfl⟩ (fun H1 i T1 Δ b1 hT hΔ => ?_) fun Δ hΔ => ?_
  rotate_left
  · obtain ⟨u2, u3, u4, u5, rfl⟩ := hΔ
    exact b_ret g_bl hD
  obtain ⟨u2, u3, u4, u5, rfl⟩ := hΔ
  refine ⟨_, tgt_name, ?_⟩
  refine b_asgT (T := lstT [anyN K, anyN K, anyN K]) (g := gLst K 3 (gCons (gName 3) (gCons (gName 4) (gCons (gName 5) gNil)))) (pg_lst rfl (pgs_cons (pg_name nd rfl (Or.inl rfl)) (pgs_cons (pg_name nd rfl (Or.inl rfl)) (pgs_cons (pg_name nd rfl (Or.inl rfl)) pgs_nil)))) ?_ tgtl3 ?_
  · refine g_lcM (i := 6) (List.range 3) (fun k => intT (0 + (k : Int))) (fun _ => anyN K) (gi_rng1 g_int (T.free _ q_free_range)) (by decide) (fun k _ s H C cl fp => ?_)
    refine g_callE (C := fun l => PowOk l.1) (Ts := [exT fun l : Pows => dicT (kvN l.1)]) FM hr (ga_cons ?_ ga_nil) (fun vs H h => by
      obtain ⟨v, rfl, l, hv⟩ := one2 h
      exact ⟨⟨l.1, l.2.ok⟩, ⟨hv, trivial⟩, l.2⟩) (fun l hl v H h => ⟨⟨l.1, hl⟩, h⟩)
    refine g_callE (C := fun _ => True) (Ts := [bagT, intT 6, inT fun i => 0 < i ∧ i < 2 ^ 100]) FP (hr.mono (by decide)) (ga_cons (g_var 1) (ga_cons g_int (ga_cons ?_ ga_nil))) (fun vs H h => by
        obtain ⟨v0, v1, v2, rfl, h0, h1, ⟨i, h2⟩⟩ := all2_3 h
        exact ⟨(6, i), ⟨h0, h1, h2, trivial⟩, trivial⟩) (fun i _ v H h => h)
    refine G.imp (g_call FO (hr.mono (by decide)) ⟨([2, 5, 10 ^ (20 : Int).toNat] : List Int).map fun z => intT z, by decide, by decide⟩ (ga_cons (g_var 1) (ga_cons (g_lst (ga_cons g_int (ga_cons g_int (ga_cons (g_pow (i := 10) (j := 20) g_int g_int ⟨by decide, by decide, by decide⟩) ga_nil)))) ga_nil))) fun v H hv => one_in (by decide) hv
  refine b_openS (F := fun l : Pows => numT K l.1) 3 rfl fun a => ?_
  refine b_openS (F := fun l : Pows => numT K l.1) 4 rfl fun b => ?_
  refine b_openS (F := fun l : Pows => numT K l.1) 5 rfl fun c => ?_
  obtain ⟨a, ha⟩ := a
  obtain ⟨b, hb⟩ := b
  obtain ⟨c, hc⟩ := c
  have ca := ha.ok.canon
  have cb := hb.ok.canon
  have cc := hc.ok.canon
  have la := ha.few
  have lb := hb.few
  have lc := hc.few
  have l1 := opK_len f_mul a b
  have l2 := opK_len f_mul b a
  have l3 := opK_len f_mul b c
  have l4 := opK_len f_mul a c
  have l5 := and_len ca cb
  have l6 := opK_len f_or a b
  have l7 := and_len ca cc
  have l8 := and_len cb cc
  have l9 := opK_len f_mul (opK f_mul a b) c
  have l10 := opK_len f_mul (opK f_and a b) (opK f_or a b)
  have l11 := raised_len a 3
  have l12 := raised_len a 5
  have l13 := raised_len b 5
  have l14 := raised_len (opK f_mul a b) 5
  have n1 : CmpN (opK f_mul a b) := ⟨opK_canon _ _ _, by omega⟩
  have nA : CmpN a := ⟨ca, by omega⟩
  have nB : CmpN b := ⟨cb, by omega⟩
  have nC : CmpN c := ⟨cc, by omega⟩
  have w1 : ∀ q ∈ a, q.2.natAbs < 2 ^ 1000 := pow_low ha
  have w2 : ∀ q ∈ b, q.2.natAbs < 2 ^ 1000 := pow_low hb
  have w3 : ∀ q ∈ opK f_mul a b, q.2.natAbs < 2 ^ 1000 := mul_low ha hb
  have t3 : (3 : Int).natAbs < 2 ^ 1000 := Nat.lt_of_lt_of_le (show 3 < 2 ^ 2 by decide) (Nat.pow_le_pow_right (by decide) (by decide))
  have t5 : (5 : Int).natAbs < 2 ^ 1000 := Nat.lt_of_lt_of_le (show 5 < 2 ^ 3 by decide) (Nat.pow_le_pow_right (by decide) (by decide))
  -- products
  have e1 := mul_comm' ca cb
  have e2 := mul_assoc' ca cb cc
  have e3 := and_mul_or ca cb
  refine b_if ((gt_or3 (k := false) (l := false) (n := false) (gt_neF T ⟨rfl, rfl⟩ hr3 e1 n1 (g_mulN T ⟨rfl, rfl⟩ hr4 (by omega) (g_var 3) (g_var 4)) (g_mulN T ⟨rfl, rfl⟩ hr4 (by omega) (g_var 4) (g_var 3)))
    (fun _ => gt_neF T ⟨rfl, rfl⟩ hr3 e2 ⟨opK_canon _ _ _, by omega⟩ (g_mulN T ⟨rfl, rfl⟩ hr4 (by omega) (g_mulN T ⟨rfl, rfl⟩ hr4 (by omega) (g_var 3) (g_var 4)) (g_var 5)) (g_mulN T ⟨rfl, rfl⟩ hr4 (by omega) (g_var 3) (g_mulN T ⟨rfl, rfl⟩ hr4 (by omega) (g_var 4) (g_var 5))))
    (fun _ _ => gt_neF T ⟨rfl, rfl⟩ hr3 e3 ⟨opK_canon _ _ _, by omega⟩ (g_mulN T ⟨rfl, rfl⟩ hr4 (by omega) (g_andN T ⟨rfl, rfl⟩ hr4 (by omega) (g_var 3) (g_var 4)) (g_orN T ⟨rfl, rfl⟩ hr4 (by omega) (g_var 3) (g_var 4))) (g_mulN T ⟨rfl, rfl⟩ hr4 (by omega) (g_var 3) (g_var 4)))).is (b' := false) rfl) (fun h => by cases h) fun _ => ?_
  refine b_skip ?_
  -- quotients
  refine b_if ((gt_or3 (k := false) (l := false) (n := false)
    (gt_neF T ⟨rfl, rfl⟩ hr3 (over_mulR ca cb) ⟨overK_canon _ _, by rw [over_mulR ca cb]; omega⟩ (g_meth FV hr4 ⟨(opK f_mul a b, b), opK_canon _ _ _, by show (opK f_mul a b).length < 64; omega, by show b.length < 64; omega, dvd_mulR ca cb⟩ (g_mulN (x := a) (y := b) T ⟨rfl, rfl⟩ hr4 (by omega) (g_var 3) (g_var 4)) (ga_cons (g_var 4) ga_nil) fun v H h => num_of (by decide +kernel) h) (g_var 3))
    (fun _ => (gt_not (gt_bl (g_meth FD hr2 ⟨(a, opK f_mul a c), by show a.length < 64; omega⟩ (g_var 3) (ga_cons (g_mulN (x := a) (y := c) T ⟨rfl, rfl⟩ hr4 (by omega) (g_var 3) (g_var 5)) ga_nil) fun v H h => num_of (by decide +kernel) h))).is (by show (!dvdK a (opK f_mul a c)) = false; rw [dvd_mulL ca cc]; rfl))
    (fun _ _ => gt_neF T ⟨rfl, rfl⟩ hr3 (over_mulL ca cc) ⟨overK_canon _ _, by rw [over_mulL ca cc]; omega⟩ (g_meth FV hr4 ⟨(opK f_mul a c, a), opK_canon _ _ _, by show (opK f_mul a c).length < 64; omega, by show a.length < 64; omega, dvd_mulL ca cc⟩ (g_mulN (x := a) (y := c) T ⟨rfl, rfl⟩ hr4 (by omega) (g_var 3) (g_var 5)) (ga_cons (g_var 3) ga_nil) fun v H h => num_of (by decide +kernel) h) (g_var 5))).is (b' := false) rfl) (fun h => by cases h) fun _ => ?_
  refine b_skip ?_
  -- common divisors and multiples
  refine b_if ((gt_or3 (k := false) (l := false) (n := false)
    (gt_neF T ⟨rfl, rfl⟩ hr3 (and_or ca cb) ⟨opK_canon _ _ _, by rw [and_or ca cb]; omega⟩ (g_andN T ⟨rfl, rfl⟩ hr4 (by omega) (g_var 3) (g_orN T ⟨rfl, rfl⟩ hr4 (by omega) (g_var 3) (g_var 4))) (g_var 3))
    (fun _ => gt_neF T ⟨rfl, rfl⟩ hr3 (or_and ca cb) ⟨opK_canon _ _ _, by rw [or_and ca cb]; omega⟩ (g_orN T ⟨rfl, rfl⟩ hr4 (by omega) (g_var 3) (g_andN T ⟨rfl, rfl⟩ hr4 (by omega) (g_var 3) (g_var 4))) (g_var 3))
    (fun _ _ => gt_neF T ⟨rfl, rfl⟩ hr3 (or_and_dist ca cb cc) ⟨opK_canon _ _ _, by have := opK_len f_and (opK f_or a b) c; omega⟩ (g_andN T ⟨rfl, rfl⟩ hr4 (by omega) (g_orN T ⟨rfl, rfl⟩ hr4 (by omega) (g_var 3) (g_var 4)) (g_var 5)) (g_orN T ⟨rfl, rfl⟩ hr4 (by omega) (g_andN T ⟨rfl, rfl⟩ hr4 (by omega) (g_var 3) (g_var 5)) (g_andN T ⟨rfl, rfl⟩ hr4 (by omega) (g_var 4) (g_var 5))))).is (b' := false) rfl) (fun h => by cases h) fun _ => ?_
  refine b_skip ?_
  -- division
  refine b_if ((gt_or2 (k := false) (l := false)
    (gt_neB (dvd_and ca cb) (g_meth FD hr2 ⟨(a, b), by show a.length < 64; omega⟩ (g_var 3) (ga_cons (g_var 4) ga_nil) fun v H h => num_of (by decide +kernel) h) (g_eqN (x := opK f_and a b) (y := a) T ⟨rfl, rfl⟩ hr2 ⟨opK_canon _ _ _, by omega⟩ nA (g_andN T ⟨rfl, rfl⟩ hr4 (by omega) (g_var 3) (g_var 4)) (g_var 3)))
    (fun _ => gt_neB (dvd_or ca cb) (g_meth FD hr2 ⟨(a, b), by show a.length < 64; omega⟩ (g_var 3) (ga_cons (g_var 4) ga_nil) fun v H h => num_of (by decide +kernel) h) (g_eqN (x := opK f_or a b) (y := b) T ⟨rfl, rfl⟩ hr2 ⟨opK_canon _ _ _, by omega⟩ nB (g_orN T ⟨rfl, rfl⟩ hr4 (by omega) (g_var 3) (g_var 4)) (g_var 4)))).is (b' := false) rfl) (fun h => by cases h) fun _ => ?_
  refine b_skip ?_
  -- powers
  refine b_if ((gt_or2 (k := false) (l := false)
    (gt_neF T ⟨rfl, rfl⟩ hr3 (raised3 ca) ⟨raisedK_canon _ _, by omega⟩ (g_meth FR hr4 ⟨(a, 3), ca, by show a.length < 64; omega, w1, t3⟩ (g_var 3) (ga_cons g_int ga_nil) fun v H h => num_of (by decide +kernel) h) (g_product T ⟨rfl, rfl⟩ (zs := [a, a, a]) (by simp only [List.map_cons, List.map_nil, List.sum_cons, List.sum_nil]; omega) (by show 3 ≤ 64; decide) (ga_cons (g_var 3) (ga_cons (g_var 3) (ga_cons (g_var 3) ga_nil))) hr))
    (fun _ => gt_neF T ⟨rfl, rfl⟩ hr3 (raised_mul ca cb) ⟨raisedK_canon _ _, by omega⟩ (g_meth FR hr4 ⟨(opK f_mul a b, 5), opK_canon _ _ _, by show (opK f_mul a b).length < 64; omega, w3, t5⟩ (g_mulN (x := a) (y := b) T ⟨rfl, rfl⟩ hr4 (by omega) (g_var 3) (g_var 4)) (ga_cons g_int ga_nil) fun v H h => num_of (by decide +kernel) h)
      (g_mulN T ⟨rfl, rfl⟩ hr4 (by omega) (g_meth FR hr4 ⟨(a, 5), ca, by show a.length < 64; omega, w1, t5⟩ (g_var 3) (ga_cons g_int ga_nil) fun v H h => num_of (by decide +kernel) h) (g_meth FR hr4 ⟨(b, 5), cb, by show b.length < 64; omega, w2, t5⟩ (g_var 4) (ga_cons g_int ga_nil) fun v H h => num_of (by decide +kernel) h)))).is (b' := false) rfl) (fun h => by cases h) fun _ => ?_
  refine b_skip ?_
  refine b_if ((gt_or3 (k := false) (l := false) (n := false)
    (gt_neF T ⟨rfl, rfl⟩ hr3 (mul_nil ca) ⟨opK_canon _ _ _, by rw [mul_nil ca]; omega⟩ (g_mulN (y := []) T ⟨rfl, rfl⟩ hr4 (by simp only [List.length_nil]; omega) (g_var 3) (g_number0 T ⟨rfl, rfl⟩ hr4)) (g_var 3))
    (fun _ => gt_neF T ⟨rfl, rfl⟩ hr3 (over_self ca) ⟨overK_canon _ _, by rw [over_self ca]; decide⟩ (g_meth FV hr4 ⟨(a, a), ca, by show a.length < 64; omega, by show a.length < 64; omega, dvd_self ca⟩ (g_var 3) (ga_cons (g_var 3) ga_nil) fun v H h => num_of (by decide +kernel) h) (g_number0 T ⟨rfl, rfl⟩ hr4))
    (fun _ _ => (gt_gt (g_lenN (x := opK f_and a b) T ⟨rfl, rfl⟩ hr2 (by omega) (g_andN T ⟨rfl, rfl⟩ hr4 (by omega) (g_var 3) (g_var 4))) (g_min2 (g_lenN (x := a) T ⟨rfl, rfl⟩ hr2 (by omega) (g_var 3)) (g_lenN (x := b) T ⟨rfl, rfl⟩ hr2 (by omega) (g_var 4)) (T.free _ q_free_min))).is (by
      rw [decide_eq_false_iff_not]
      have := l5.1
      have := l5.2
      split <;> omega))).is (b' := false) rfl) (fun h => by cases h) fun _ => ?_
  refine b_skip ?_
  exact turn_nx ⟨_, _, _, _, rfl⟩
end
end K05

set_option Elab.async false
set_option linter.all false
set_option maxRecDepth 100000
set_option maxHeartbeats 0
namespace K05
open PySem PySem.Spec PyProof.Rows L2 RL NM StX
theorem facts {P : Program} {w : World} {K : PySem.W.Frag} {h : Heap} {mg : Str → Option Value} {f : Addr} (X : K.In h) (G : h.Ns mainGlobals mg) (hfa : mg ("law" : Str) = some (.ref f)) (c : SaysX fa fn ex K) :
    ∃ fd : FuncData, (∀ (s : Shared) (v : Value), BindsTo s fd ⟨[v], []⟩ [("_law_script", v)]) ∧ ∀ base : Heap, K.In base → base.Ns mainGlobals mg → FnOk P w K mg base CX0 6 f fd ["_law_script"] (spG (fun ns : List Int => [rlT K (ns.map fun z => intT z)]) fun _ => blT true) := by
  have T : Tx fa fn ex K mg := ⟨c, h, X, G⟩
  obtain ⟨fd, F⟩ := T.def_ d_law i_law
  have e0 : d_law.dvs K = [] := rfl
  rw [e0] at F
  have e1 : He.fAd K d_law.at_ = He.ga K "law" := rfl
  have e := hfa.symm.trans (T.glo _ q_glo_law)
  rw [e1] at F
  cases e
  have b := FunD.bindsA (ps := ["_law_script"]) F fun _ _ _ _ _ _ us hl => match us, hl with | [_], _ => rfl
  exact ⟨fd, fun s v => b s [v] rfl, fun base _ _ => ok_law T F⟩
end K05
open PySem PySem.W PySem.Calls PyProof.Rows
theorem PySem.Challenge.cw_timesalone_k05_whole_rules_of_multiplica_holds : PySem.Challenge.rw_timesalone_k05_whole_rules_of_multiplica.Holds := by
  w_on; o_law
  refine HandSHeadRun.head_any (r := OpenLaw.row PySem.Challenge.rw_timesalone_k05_whole_rules_of_multiplica) (q := view (OpenLaw.row PySem.Challenge.rw_timesalone_k05_whole_rules_of_multiplica).prog [25]) (H := K05.hk) (ob := K05.ob) (M := 20000) (loose := K05.loose) (d := HandSHeadRun.topDef (OpenLaw.row PySem.Challenge.rw_timesalone_k05_whole_rules_of_multiplica).prog 25) (kwd := []) K05.ob_eq
    (by kernel_rfl) (fun s => by kernel_rfl) K05.run (by kernel_rfl) (by kernel_rfl) (by kernel_rfl) (by rfl) (by first | assumption | decide +kernel) (by decide +kernel) ⟨rfl, rfl, rfl, rfl, rfl, by decide +kernel⟩ ?hw ?hc
  case hw => w_witness2
  case hc =>
    refine L2.walk_ofE (l := PySem.Challenge.rw_timesalone_k05_whole_rules_of_multiplica) (n := 63) (k := 6) (x := "_law_script") (CX := L2.CX0) rfl (by decide) (by kernel_rfl) ⟨rfl, by decide, by decide⟩ ?F (fun _ _ _ _ z => z)
    intro w mg fa h Y G hmg0
    obtain ⟨K, KX, c⟩ := Y
    have hmg : mg ("law" : PySem.Str) = some (.ref fa) := by
      have e : (HandSHeadRun.topDef (OpenLaw.row PySem.Challenge.rw_timesalone_k05_whole_rules_of_multiplica).prog 25).name = ("law" : PySem.Str) := by kernel_rfl
      rw [← e]
      exact hmg0
    obtain ⟨fd, hb, hF⟩ := K05.facts (P := (PySem.Challenge.rw_timesalone_k05_whole_rules_of_multiplica).prog) (w := w) KX G hmg c
    refine ⟨K, fd, _, KX, hb, fun H a ns hl _ hS => ⟨ns, ⟨⟨a, ns.map L2.V.int, rfl, hS, ?_⟩, trivial⟩, fun v H' _ hv => hv⟩, hF⟩
    have z := RL.All2.of_vals (H := H) (ws := ns.map L2.V.int)
    rwa [List.map_map] at z
