import PyProof.Rows.All
import Wide.All
import OpenK.AllK
import Wide.FinOn
import HandS.ForMost
import HandS.IsInst
import HandS.SortInts
import HandS.Style
import PySem.Challenge.RW_pinbarrel_k01_keys
set_option Elab.async false
set_option linter.all false
set_option maxRecDepth 100000
set_option maxHeartbeats 8000000
namespace Y
open PySem PySem.Spec PyProof.Rows L2

/-! ### canonical readings: what a piece of syntax does, as the machine has it -/
section
variable {X : Cx}
def WE (X : Cx) (e : Expr) : TE := fun σ H Q => ∀ (pins : List (Addr × Obj)) (s : Shared), Inv X pins σ H s → wpAny (model X.prog X.w) X.A (eval e X.env) (EP X pins σ Q) X.xe s
def WT (X : Cx) (e : Expr) : TT := fun σ H Q => ∀ (pins : List (Addr × Obj)) (s : Shared), Inv X pins σ H s → wpAny (model X.prog X.w) X.A (isTrue e X.env (eval e X.env)) (TP X pins σ Q) X.xe s
def WW (X : Cx) (e : Expr) : TT := fun σ H Q => ∀ (whole : Sem Value) (pins : List (Addr × Obj)) (s : Shared), Inv X pins σ H s → wpAny (model X.prog X.w) X.A (isTrue e X.env whole) (TP X pins σ Q) X.xe s
def WA (X : Cx) (es : List Expr) : TA := fun σ H Q => ∀ (pos : Pos) (pins : List (Addr × Obj)) (s : Shared), Inv X pins σ H s → wpAny (model X.prog X.w) X.A (spliced (backTo pos (starEach es X.env))) (AP X pins σ Q) X.xe s
def WS (X : Cx) (st : Stmt) : TS := fun D σ H => ∀ (pins : List (Addr × Obj)) (s : Shared), Inv X pins σ H s → wpAny (model X.prog X.w) X.A (exec st X.env) (SP X pins D) X.xe s
def WSs (X : Cx) (sts : List Stmt) : TS := fun D σ H => ∀ (pins : List (Addr × Obj)) (s : Shared), Inv X pins σ H s → wpAny (model X.prog X.w) X.A (execs sts X.env) (SP X pins D) X.xe s
def WTs (X : Cx) (ifs : List Expr) : TT := fun σ H Q => ∀ (pins : List (Addr × Obj)) (s : Shared), Inv X pins σ H s →
    wpAny (model X.prog X.w) X.A (forIn ifs true fun c r => if r = true then do let ok ← isTrue c X.env (eval c X.env); pure (ForInStep.yield ok) else pure (ForInStep.yield r)) (TP X pins σ Q) X.xe s
theorem pe_w (e : Expr) : PE X e (WE X e) := ⟨fun pins s σ H Q I h => h pins s I⟩
theorem pt_w (e : Expr) : PT X e (WT X e) := ⟨fun pins s σ H Q I h => h pins s I⟩
theorem pw_w (e : Expr) : PW X e (WW X e) := ⟨fun wh pins s σ H Q I h => h wh pins s I⟩
theorem pa_w (es : List Expr) : PA X es (WA X es) := ⟨fun pos pins s σ H Q I h => h pos pins s I⟩
theorem ps_w (st : Stmt) : PS X st (WS X st) := ⟨fun pins s σ H D I h => h pins s I⟩
theorem pss_w (sts : List Stmt) : PSs X sts (WSs X sts) := ⟨fun pins s σ H D I h => h pins s I⟩
theorem pts_w (ifs : List Expr) : PTs X ifs (WTs X ifs) := ⟨fun pins s σ H Q I h => h pins s I⟩
theorem we_of {e : Expr} {t : TE} {σ : L2.St} {H : Hp} {Q : VK} (p : PE X e t) (h : t σ H Q) : WE X e σ H Q := fun pins s I => p.run pins s σ H Q I h
theorem wt_of {e : Expr} {t : TT} {σ : L2.St} {H : Hp} {Q : Bool → Hp → Prop} (p : PT X e t) (h : t σ H Q) : WT X e σ H Q := fun pins s I => p.run pins s σ H Q I h
theorem ww_of {e : Expr} {t : TT} {σ : L2.St} {H : Hp} {Q : Bool → Hp → Prop} (p : PW X e t) (h : t σ H Q) : WW X e σ H Q := fun wh pins s I => p.run wh pins s σ H Q I h
theorem wa_of {es : List Expr} {t : TA} {σ : L2.St} {H : Hp} {Q : List V → Hp → Prop} (p : PA X es t) (h : t σ H Q) : WA X es σ H Q := fun pos pins s I => p.run pos pins s σ H Q I h
theorem ws_of {st : Stmt} {t : TS} {D : Ends} {σ : L2.St} {H : Hp} (p : PS X st t) (h : t D σ H) : WS X st D σ H := fun pins s I => p.run pins s σ H D I h
theorem wss_of {sts : List Stmt} {t : TS} {D : Ends} {σ : L2.St} {H : Hp} (p : PSs X sts t) (h : t D σ H) : WSs X sts D σ H := fun pins s I => p.run pins s σ H D I h
theorem wts_of {ifs : List Expr} {t : TT} {σ : L2.St} {H : Hp} {Q : Bool → Hp → Prop} (p : PTs X ifs t) (h : t σ H Q) : WTs X ifs σ H Q := fun pins s I => p.run pins s σ H Q I h
/-- the ends of a statement that stands ahead of others -/
def thn (X : Cx) (rest : List Stmt) (D : Ends) : Ends := { D with nx := WSs X rest D }
theorem wss_cons {st : Stmt} {rest : List Stmt} {D : Ends} {σ : L2.St} {H : Hp} (h : WS X st (thn X rest D) σ H) : WSs X (st :: rest) D σ H :=
  wss_of (pss_cons (ps_w st) (pss_w rest)) h
theorem wss_nil {D : Ends} {σ : L2.St} {H : Hp} (h : D.nx σ H) : WSs X [] D σ H := wss_of pss_nil h
end

/-! ### heaps: F what stands for good, M what is one's own and may change -/
structure Own (F M H : Hp) : Prop where
  f : Same F H
  m : Same M H
  d : ∀ a o, M a = some o → F a = none
section
variable {F F1 M M1 H H1 : Hp} {a b p : Addr} {o u : HO}
theorem same_new (h : H p = none) : Same H (upd H p o) := fun b x e => by
  rw [upd_ne (ne_of_none e h)]
  exact e
theorem same_in (e : Same M H) (h : M p = none) : Same M (upd H p o) := fun b x hb => by
  rw [upd_ne (ne_of_none hb h)]
  exact e b x hb
theorem same_upd (e : Same F H) : Same (upd F p o) (upd H p o) := fun b x hb => by
  by_cases q : b = p
  · subst q; rw [upd_same] at hb ⊢; exact hb
  · rw [upd_ne q] at hb ⊢; exact e b x hb
theorem Same.no (e : Same F H) (h : H p = none) : F p = none := by
  cases q : F p with
  | none => rfl
  | some x => rw [e p x q] at h; cases h
theorem Own.newF (w : Own F M H) (h : H p = none) : Own (upd F p o) M (upd H p o) :=
  ⟨same_upd w.f, same_in w.m (Same.no w.m h), fun b x e => by
    have hb : b ≠ p := fun q => by rw [q, Same.no w.m h] at e; cases e
    rw [upd_ne hb]; exact w.d b x e⟩
theorem Own.newM (w : Own F M H) (h : H p = none) : Own F (upd M p o) (upd H p o) :=
  ⟨same_in w.f (Same.no w.f h), same_upd w.m, fun b x e => by
    by_cases q : b = p
    · subst q; exact Same.no w.f h
    · rw [upd_ne q] at e; exact w.d b x e⟩
theorem Own.put (w : Own F M H) (h : M p = some u) : Own F (upd M p o) (upd H p o) :=
  ⟨same_in w.f (w.d p u h), same_upd w.m, fun b x e => by
    by_cases q : b = p
    · subst q; exact w.d b u h
    · rw [upd_ne q] at e; exact w.d b x e⟩
def del (M : Hp) (p : Addr) : Hp := fun b => if b = p then none else M b
theorem del_same : del M p p = none := by unfold del; rw [if_pos rfl]
theorem del_ne (h : b ≠ p) : del M p b = M b := by unfold del; rw [if_neg h]
theorem Own.freeze (w : Own F M H) (h : M p = some o) : Own (upd F p o) (del M p) H :=
  ⟨fun b x e => by
    by_cases q : b = p
    · subst q; rw [upd_same] at e; cases e; exact w.m b _ h
    · rw [upd_ne q] at e; exact w.f b x e,
   fun b x e => by
    by_cases q : b = p
    · subst q; rw [del_same] at e; cases e
    · rw [del_ne q] at e; exact w.m b x e,
   fun b x e => by
    by_cases q : b = p
    · subst q; rw [del_same] at e; cases e
    · rw [del_ne q] at e; rw [upd_ne q]; exact w.d b x e⟩
theorem Own.lessM (w : Own F M H) (s : Same M1 M) : Own F M1 H := ⟨w.f, s.trans w.m, fun a o e => w.d a o (s a o e)⟩
theorem Own.lessF (w : Own F M H) (s : Same F1 F) : Own F1 M H := ⟨s.trans w.f, w.m, fun a o e => by
  have h := w.d a o e
  exact Same.no s h⟩
theorem Own.noF (w : Own F M H) (h : H p = none) : F p = none := Same.no w.f h
theorem Own.noM (w : Own F M H) (h : H p = none) : M p = none := Same.no w.m h
theorem Own.neF (w : Own F M H) (hF : F b = some u) (h : M p = some o) : b ≠ p := fun q => by
  subst q; rw [w.d b o h] at hF; cases hF
theorem same_del (e : Same M1 M) (h : M1 p = none) : Same M1 (del M p) := fun b x hb => by
  rw [del_ne (ne_of_none hb h)]; exact e b x hb
/-- what was frozen for a while is one's own again -/
theorem Own.thaw (w : Own F M H) (h : M p = some o) (w1 : Own F1 (del M p) H1) (s : Same (upd F p o) F1) : Own F M H1 :=
  ⟨fun b x e => w1.f b x (s b x (by rw [upd_ne (w.neF e h)]; exact e)),
   fun b x e => by
    by_cases q : b = p
    · subst q; rw [h] at e; cases e; exact w1.f b _ (s b _ upd_same)
    · exact w1.m b x (by rw [del_ne q]; exact e),
   w.d⟩
end

/-! ### what stands for what -/
abbrev Rep (α : Type) := Hp → V → α → Prop
class Mono {α : Type} (r : Rep α) : Prop where
  mono : ∀ {F F' : Hp} {v : V} {x : α}, Same F F' → r F v x → r F' v x
inductive A2 {α β : Type} (p : α → β → Prop) : List α → List β → Prop
  | nil : A2 p [] []
  | cons {a b as bs} : p a b → A2 p as bs → A2 p (a :: as) (b :: bs)
namespace A2
variable {α β : Type} {p q : α → β → Prop}
theorem len : ∀ {as : List α} {bs : List β}, A2 p as bs → as.length = bs.length
  | _, _, .nil => rfl
  | _, _, .cons _ t => by simp [t.len]
theorem imp (f : ∀ a b, p a b → q a b) : ∀ {as : List α} {bs : List β}, A2 p as bs → A2 q as bs
  | _, _, .nil => .nil
  | _, _, .cons h t => .cons (f _ _ h) (t.imp f)
theorem get : ∀ {as : List α} {bs : List β} {i : Nat} {b : β}, A2 p as bs → bs[i]? = some b → ∃ a, as[i]? = some a ∧ p a b
  | _, _, _, _, .nil, e => by simp at e
  | _, _, 0, _, .cons h _, e => by simp at e; subst e; exact ⟨_, rfl, h⟩
  | _, _, i + 1, _, .cons _ t, e => by
    obtain ⟨a, h1, h2⟩ := get (i := i) t (by simpa using e)
    exact ⟨a, by simpa using h1, h2⟩
theorem getL : ∀ {as : List α} {bs : List β} {i : Nat} {a : α}, A2 p as bs → as[i]? = some a → ∃ b, bs[i]? = some b ∧ p a b
  | _, _, _, _, .nil, e => by simp at e
  | _, _, 0, _, .cons h _, e => by simp at e; subst e; exact ⟨_, rfl, h⟩
  | _, _, i + 1, _, .cons _ t, e => by
    obtain ⟨b, h1, h2⟩ := getL (i := i) t (by simpa using e)
    exact ⟨b, by simpa using h1, h2⟩
theorem app : ∀ {as as' : List α} {bs bs' : List β}, A2 p as bs → A2 p as' bs' → A2 p (as ++ as') (bs ++ bs')
  | _, _, _, _, .nil, h => h
  | _, _, _, _, .cons h t, h' => .cons h (t.app h')
theorem one {a : α} {b : β} (h : p a b) : A2 p [a] [b] := .cons h .nil
theorem push {as : List α} {bs : List β} {a : α} {b : β} (t : A2 p as bs) (h : p a b) : A2 p (as ++ [a]) (bs ++ [b]) := t.app (one h)
theorem drop : ∀ {as : List α} {bs : List β} (n : Nat), A2 p as bs → A2 p (as.drop n) (bs.drop n)
  | _, _, 0, h => h
  | _, _, _ + 1, .nil => .nil
  | _, _, n + 1, .cons _ t => t.drop n
theorem take : ∀ {as : List α} {bs : List β} (n : Nat), A2 p as bs → A2 p (as.take n) (bs.take n)
  | _, _, 0, _ => .nil
  | _, _, _ + 1, .nil => .nil
  | _, _, n + 1, .cons h t => .cons h (t.take n)
theorem rev : ∀ {as : List α} {bs : List β}, A2 p as bs → A2 p as.reverse bs.reverse
  | _, _, .nil => .nil
  | _, _, .cons h t => by rw [List.reverse_cons, List.reverse_cons]; exact t.rev.push h
theorem set {a : α} {b : β} (h : p a b) : ∀ {as : List α} {bs : List β} (i : Nat), A2 p as bs → A2 p (as.set i a) (bs.set i b)
  | _, _, _, .nil => .nil
  | _, _, 0, .cons _ t => .cons h t
  | _, _, i + 1, .cons q t => .cons q (A2.set h i t)
theorem of_map {γ : Type} {f : β → α} {as : List α} {bs : List β} (e : as = bs.map f) (h : ∀ b, b ∈ bs → p (f b) b) : A2 p as bs := by
  subst e
  induction bs with
  | nil => exact .nil
  | cons b bs ih => exact .cons (h b (by simp)) (ih fun c hc => h c (by simp [hc]))
theorem eq_map {f : β → α} : ∀ {as : List α} {bs : List β}, A2 (fun a b => a = f b) as bs → as = bs.map f
  | _, _, .nil => rfl
  | _, _, .cons h t => by rw [h, t.eq_map]; rfl
theorem mapI (f : β → α) : ∀ (bs : List β), A2 (fun a b => a = f b) (bs.map f) bs
  | [] => .nil
  | _ :: t => .cons rfl (mapI f t)
end A2
def iR : Rep Int := fun _ v x => v = .int x
def bR : Rep Bool := fun _ v x => v = .bl x
def sR : Rep Str := fun _ v x => v = .str x ∧ PyData.canLay0 (.str x) = true
def nR : Rep Unit := fun _ v _ => v = .non
def oR {α : Type} (r : Rep α) : Rep (Option α) := fun F v x => match x with | none => v = .non | some y => r F v y
def lR {α : Type} (r : Rep α) : Rep (List α) := fun F v xs => ∃ a vs, v = .ref a ∧ F a = some (.lst vs) ∧ A2 (r F) vs xs
def t2R {α β : Type} (r : Rep α) (s : Rep β) : Rep (α × β) := fun F v x => ∃ a u w, v = .ref a ∧ F a = some (.tup [u, w]) ∧ r F u x.1 ∧ s F w x.2
def t3R {α β γ : Type} (r : Rep α) (s : Rep β) (t : Rep γ) : Rep (α × β × γ) := fun F v x => ∃ a u w z, v = .ref a ∧ F a = some (.tup [u, w, z]) ∧ r F u x.1 ∧ s F w x.2.1 ∧ t F z x.2.2
/-- a list that is read: for good, the module's, or one's own -/
def rdR (K : PySem.W.Frag) (M : Hp) {α : Type} (r : Rep α) : Rep (List α) := fun F v xs => ∃ a vs, v = .ref a ∧ (SqL K F a vs ∨ M a = some (.lst vs)) ∧ A2 (r F) vs xs
/-- .. for good -/
def rsR (K : PySem.W.Frag) {α : Type} (r : Rep α) : Rep (List α) := fun F v xs => ∃ a vs, v = .ref a ∧ SqL K F a vs ∧ A2 (r F) vs xs
theorem Same.sql {K : PySem.W.Frag} {F F' : Hp} {a : Addr} {vs : List V} (e : Same F F') (h : SqL K F a vs) : SqL K F' a vs := L2.Same.seq e h
theorem Same.sqt {K : PySem.W.Frag} {F F' : Hp} {a : Addr} {vs : List V} (e : Same F F') (h : SqT K F a vs) : SqT K F' a vs := by
  rcases h with (h | ⟨o, h⟩) | h
  · exact .inl (.inl (e _ _ h))
  · exact .inl (.inr ⟨o, e _ _ h⟩)
  · exact .inr h
instance : Mono iR := ⟨fun _ h => h⟩
instance : Mono bR := ⟨fun _ h => h⟩
instance : Mono sR := ⟨fun _ h => h⟩
instance : Mono nR := ⟨fun _ h => h⟩
theorem A2.up {α : Type} {r : Rep α} [m : Mono r] {F F' : Hp} (e : Same F F') {vs : List V} {xs : List α} (h : A2 (r F) vs xs) : A2 (r F') vs xs := h.imp fun _ _ q => m.mono e q
instance {α : Type} {r : Rep α} [m : Mono r] : Mono (oR r) := ⟨fun {F F' v x} e h => by cases x with
  | none => exact h
  | some y => exact m.mono (x := y) e h⟩
instance {α : Type} {r : Rep α} [m : Mono r] : Mono (lR r) := ⟨fun e ⟨a, vs, h1, h2, h3⟩ => ⟨a, vs, h1, e _ _ h2, h3.up e⟩⟩
instance {α β : Type} {r : Rep α} {s : Rep β} [m : Mono r] [n : Mono s] : Mono (t2R r s) := ⟨fun e ⟨a, u, w, h1, h2, h3, h4⟩ => ⟨a, u, w, h1, e _ _ h2, m.mono e h3, n.mono e h4⟩⟩
instance {α β γ : Type} {r : Rep α} {s : Rep β} {t : Rep γ} [m : Mono r] [n : Mono s] [k : Mono t] : Mono (t3R r s t) := ⟨fun e ⟨a, u, w, z, h1, h2, h3, h4, h5⟩ => ⟨a, u, w, z, h1, e _ _ h2, m.mono e h3, n.mono e h4, k.mono e h5⟩⟩
instance {K : PySem.W.Frag} {M : Hp} {α : Type} {r : Rep α} [m : Mono r] : Mono (rdR K M r) := ⟨fun e ⟨a, vs, h1, h2, h3⟩ => ⟨a, vs, h1, h2.imp (fun q => Same.sql e q) id, h3.up e⟩⟩
instance {K : PySem.W.Frag} {α : Type} {r : Rep α} [m : Mono r] : Mono (rsR K r) := ⟨fun e ⟨a, vs, h1, h2, h3⟩ => ⟨a, vs, h1, Same.sql e h2, h3.up e⟩⟩
theorem lR.rs {K : PySem.W.Frag} {α : Type} {r : Rep α} {F : Hp} {v : V} {xs : List α} (h : lR r F v xs) : rsR K r F v xs :=
  let ⟨a, vs, h1, h2, h3⟩ := h; ⟨a, vs, h1, SqL.of h2, h3⟩
theorem rsR.rd {K : PySem.W.Frag} {M : Hp} {α : Type} {r : Rep α} {F : Hp} {v : V} {xs : List α} (h : rsR K r F v xs) : rdR K M r F v xs :=
  let ⟨a, vs, h1, h2, h3⟩ := h; ⟨a, vs, h1, .inl h2, h3⟩
theorem lR.rd {K : PySem.W.Frag} {M : Hp} {α : Type} {r : Rep α} {F : Hp} {v : V} {xs : List α} (h : lR r F v xs) : rdR K M r F v xs := (lR.rs (K := K) h).rd
theorem Own.sq {K : PySem.W.Frag} {F M H : Hp} {a : Addr} {vs : List V} (w : Own F M H) (h : SqL K F a vs ∨ M a = some (.lst vs)) : SqL K H a vs := by
  rcases h with h | h
  · exact Same.sql w.f h
  · exact SqL.of (w.m _ _ h)
theorem iR_map {F : Hp} {vs : List V} {xs : List Int} (h : A2 (iR F) vs xs) : vs = xs.map V.int := A2.eq_map (f := V.int) h

/-! ### what an expression evaluates to -/
def Ev (X : Cx) (e : Expr) (σ : L2.St) (F M : Hp) (Φ : Hp → V → Prop) : Prop :=
  ∀ F1 H1, Same F F1 → Own F1 M H1 → ∀ Q : VK, (∀ F2 H2 v, Same F1 F2 → Own F2 M H2 → Φ F2 v → Q v H2) → WE X e σ H1 Q
abbrev EvF (X : Cx) (e : Expr) (σ : L2.St) (F M : Hp) {α : Type} (r : Rep α) (x : α) : Prop := Ev X e σ F M fun F v => r F v x
def EvT (X : Cx) (e : Expr) (σ : L2.St) (F M : Hp) (b : Bool) : Prop :=
  ∀ F1 H1, Same F F1 → Own F1 M H1 → ∀ Q : Bool → Hp → Prop, (∀ F2 H2, Same F1 F2 → Own F2 M H2 → Q b H2) → WT X e σ H1 Q
def EvW (X : Cx) (e : Expr) (σ : L2.St) (F M : Hp) (b : Bool) : Prop :=
  ∀ F1 H1, Same F F1 → Own F1 M H1 → ∀ Q : Bool → Hp → Prop, (∀ F2 H2, Same F1 F2 → Own F2 M H2 → Q b H2) → WW X e σ H1 Q
def EvTs (X : Cx) (es : List Expr) (σ : L2.St) (F M : Hp) (b : Bool) : Prop :=
  ∀ F1 H1, Same F F1 → Own F1 M H1 → ∀ Q : Bool → Hp → Prop, (∀ F2 H2, Same F1 F2 → Own F2 M H2 → Q b H2) → WTs X es σ H1 Q
def EvA (X : Cx) (es : List Expr) (σ : L2.St) (F M : Hp) (Φ : Hp → List V → Prop) : Prop :=
  ∀ F1 H1, Same F F1 → Own F1 M H1 → ∀ Q : List V → Hp → Prop, (∀ F2 H2 vs, Same F1 F2 → Own F2 M H2 → Φ F2 vs → Q vs H2) → WA X es σ H1 Q
section
variable {X : Cx} {σ : L2.St} {F M : Hp} {a b c e : Expr} {pos p : Pos} {α β : Type} {r : Rep α} {s : Rep β}
theorem Ev.imp {Φ Ψ : Hp → V → Prop} (h : Ev X e σ F M Φ) (f : ∀ F v, Φ F v → Ψ F v) : Ev X e σ F M Ψ := fun F1 H1 s w Q q => h F1 H1 s w Q fun F2 H2 v s2 w2 z => q F2 H2 v s2 w2 (f _ _ z)
theorem Ev.up {F' : Hp} {Φ : Hp → V → Prop} (h : Ev X e σ F M Φ) (s : Same F F') : Ev X e σ F' M Φ := fun F1 H1 s1 w Q q => h F1 H1 (s.trans s1) w Q q
theorem EvT.up {F' : Hp} {k : Bool} (h : EvT X e σ F M k) (s : Same F F') : EvT X e σ F' M k := fun F1 H1 s1 w Q q => h F1 H1 (s.trans s1) w Q q
theorem Ev.eq {x y : α} (h : EvF X e σ F M r x) (q : x = y) : EvF X e σ F M r y := q ▸ h
/-- a list for reading -/
theorem Ev.rd {xs : List α} (h : EvF X e σ F M (lR r) xs) : EvF X e σ F M (rdR X.K M r) xs := h.imp fun _ _ z => z.rd
theorem Ev.sd {xs : List α} (h : EvF X e σ F M (rsR X.K r) xs) : EvF X e σ F M (rdR X.K M r) xs := h.imp fun _ _ z => z.rd
theorem Ev.rs {xs : List α} (h : EvF X e σ F M (lR r) xs) : EvF X e σ F M (rsR X.K r) xs := h.imp fun _ _ z => z.rs

/-! names and constants -/
theorem ev_var (i : Nat) {x : α} {v : V} {n : Str} [m : Mono r] (hs : σ[i]? = some (some v)) (hr : r F v x) (hN : X.N[i]? = some n := by rfl)
    (hv : Vis X.env.scope n := by first | exact Or.inl rfl | exact Or.inr (Or.inl rfl) | exact Or.inr (Or.inr rfl)) (hd : (n == ("__debug__" : Str)) = false := by decide) (hcd : (n == ("__classdict__" : Str)) = false := by decide) :
    EvF X (.Name n pos) σ F M r x := fun F1 H1 s w Q q => we_of (pe_var hN hv hd hcd) ⟨v, hs, q F1 H1 v (Same.refl _) w (m.mono s hr)⟩
/-- a list of one's own, for reading -/
theorem ev_varM (i : Nat) {xs : List α} {l : Addr} {vs : List V} {n : Str} [m : Mono r] (hs : σ[i]? = some (some (.ref l))) (hM : M l = some (.lst vs)) (hr : A2 (r F) vs xs) (hN : X.N[i]? = some n := by rfl)
    (hv : Vis X.env.scope n := by first | exact Or.inl rfl | exact Or.inr (Or.inl rfl) | exact Or.inr (Or.inr rfl)) (hd : (n == ("__debug__" : Str)) = false := by decide) (hcd : (n == ("__classdict__" : Str)) = false := by decide) :
    EvF X (.Name n pos) σ F M (rdR X.K M r) xs := fun F1 H1 s w Q q => we_of (pe_var hN hv hd hcd) ⟨_, hs, q F1 H1 _ (Same.refl _) w ⟨l, vs, rfl, .inr hM, hr.up s⟩⟩
theorem ev_val (i : Nat) {v : V} {n : Str} (hs : σ[i]? = some (some v)) (hN : X.N[i]? = some n := by rfl)
    (hv : Vis X.env.scope n := by first | exact Or.inl rfl | exact Or.inr (Or.inl rfl) | exact Or.inr (Or.inr rfl)) (hd : (n == ("__debug__" : Str)) = false := by decide) (hcd : (n == ("__classdict__" : Str)) = false := by decide) :
    Ev X (.Name n pos) σ F M (fun _ u => u = v) := fun F1 H1 s w Q q => we_of (pe_var hN hv hd hcd) ⟨v, hs, q F1 H1 v (Same.refl _) w rfl⟩
theorem ev_int {i : Int} {j} : EvF X (.Constant (.int i) j pos) σ F M iR i := fun F1 H1 s w Q q => we_of pe_int (q F1 H1 _ (Same.refl _) w rfl)
theorem ev_bl {i : Bool} {j} : EvF X (.Constant (.bool i) j pos) σ F M bR i := fun F1 H1 s w Q q => we_of pe_bl (q F1 H1 _ (Same.refl _) w rfl)
theorem ev_non {j} : EvF X (.Constant .none j pos) σ F M nR () := fun F1 H1 s w Q q => we_of pe_non (q F1 H1 _ (Same.refl _) w rfl)
theorem ev_noneO {j} : EvF X (.Constant .none j pos) σ F M (oR r) none := fun F1 H1 s w Q q => we_of pe_non (q F1 H1 _ (Same.refl _) w rfl)
theorem ev_str {i : Str} {j} (h : PyData.canLay0 (.str i) = true := by decide +kernel) : EvF X (.Constant (.str i) j pos) σ F M sR i := fun F1 H1 s w Q q => we_of pe_str (q F1 H1 _ (Same.refl _) w ⟨rfl, h⟩)
/-- a module's constant -/
theorem ev_glob {n : Str} {v : V} {u : Value} {Φ : Hp → V → Prop} (hm : X.mg n = some u) (rv : RelV v u) (h : ∀ F, Φ F v) (hg : Gl X n := by rfl) (hd : (n == ("__debug__" : Str)) = false := by decide) : Ev X (.Name n pos) σ F M Φ := fun F1 H1 s w Q q => we_of (pe_glob hg hm rv hd) (q F1 H1 _ (Same.refl _) w (h _))

theorem ev_globI {n : Str} {i : Int} {u : Tok} (hm : X.mg n = some (.int i u)) (hg : Gl X n := by rfl) (hd : (n == ("__debug__" : Str)) = false := by decide) : EvF X (.Name n pos) σ F M iR i := ev_glob (v := .int i) hm ⟨_, rfl⟩ (fun _ => rfl) hg hd
theorem ev_globS {n : Str} {i : Str} {u : Tok} (hm : X.mg n = some (.str i u)) (hl : PyData.canLay0 (.str i) = true := by decide +kernel) (hg : Gl X n := by rfl) (hd : (n == ("__debug__" : Str)) = false := by decide) : EvF X (.Name n pos) σ F M sR i := ev_glob (v := .str i) hm ⟨_, rfl⟩ (fun _ => ⟨rfl, hl⟩) hg hd

/-! ints -/
theorem ev_opI {op : Operator} {C : Int → Int → Prop} {g : Int → Int → V} {Φ : Hp → V → Prop} {i j : Int} (ho : OpR X (binaryOp op) (L2.rI C g)) (hc : C i j) (h : ∀ F, Φ F (g i j)) (ha : EvF X a σ F M iR i) (hb : EvF X b σ F M iR j) : Ev X (.BinOp a op b pos) σ F M Φ :=
  fun F1 H1 s w Q q => we_of (pe_op ho (pe_w a) (pe_w b)) (ha F1 H1 s w _ fun F2 H2 v s2 w2 hv => hb F2 H2 (s.trans s2) w2 _ fun F3 H3 u s3 w3 hu => ⟨i, j, hv, hu, hc, q F3 H3 _ (s2.trans s3) w3 (h F3)⟩)
theorem ev_opI0 {op : Operator} {g : Int → Int → V} {Φ : Hp → V → Prop} {i j : Int} (ho : OpR X (binaryOp op) (rI0 g)) (h : ∀ F, Φ F (g i j)) (ha : EvF X a σ F M iR i) (hb : EvF X b σ F M iR j) : Ev X (.BinOp a op b pos) σ F M Φ :=
  fun F1 H1 s w Q q => we_of (pe_op ho (pe_w a) (pe_w b)) (ha F1 H1 s w _ fun F2 H2 v s2 w2 hv => hb F2 H2 (s.trans s2) w2 _ fun F3 H3 u s3 w3 hu => ⟨i, j, hv, hu, q F3 H3 _ (s2.trans s3) w3 (h F3)⟩)
theorem ev_add {i j : Int} (ha : EvF X a σ F M iR i) (hb : EvF X b σ F M iR j) : EvF X (.BinOp a .Add b pos) σ F M iR (i + j) := ev_opI0 op_add (fun _ => rfl) ha hb
theorem ev_sub {i j : Int} (ha : EvF X a σ F M iR i) (hb : EvF X b σ F M iR j) : EvF X (.BinOp a .Sub b pos) σ F M iR (i - j) := ev_opI0 op_sub (fun _ => rfl) ha hb
theorem ev_mul {i j : Int} (ha : EvF X a σ F M iR i) (hb : EvF X b σ F M iR j) (hc : CMul i j) : EvF X (.BinOp a .Mult b pos) σ F M iR (i * j) := ev_opI op_mul hc (fun _ => rfl) ha hb
theorem ev_div {i j : Int} (ha : EvF X a σ F M iR i) (hb : EvF X b σ F M iR j) (hc : CDiv i j := by exact ⟨by decide, by decide⟩) : EvF X (.BinOp a .FloorDiv b pos) σ F M iR (i / j) := ev_opI op_fdiv hc (fun _ => rfl) ha hb
theorem ev_mod {i j : Int} (ha : EvF X a σ F M iR i) (hb : EvF X b σ F M iR j) (hc : 0 < j := by decide) : EvF X (.BinOp a .Mod b pos) σ F M iR (i % j) := ev_opI op_mod hc (fun _ => rfl) ha hb
theorem ev_pow {i j : Int} (ha : EvF X a σ F M iR i) (hb : EvF X b σ F M iR j) (hc : CPow i j := by exact ⟨by decide, by decide, by decide⟩) : EvF X (.BinOp a .Pow b pos) σ F M iR (i ^ j.toNat) := ev_opI op_pow hc (fun _ => rfl) ha hb
theorem ev_neg {i : Int} (ha : EvF X a σ F M iR i) : EvF X (.UnaryOp .USub a pos) σ F M iR (-i) :=
  fun F1 H1 s w Q q => we_of (pe_un un_neg (pe_w a)) (ha F1 H1 s w _ fun F2 H2 v s2 w2 hv => ⟨i, hv, q F2 H2 _ s2 w2 rfl⟩)

/-! comparisons, as values and as tests -/
/-- a truth, as a value and as a test -/
def Bx (X : Cx) (e : Expr) (σ : L2.St) (F M : Hp) (k : Bool) : Prop := EvF X e σ F M bR k ∧ EvT X e σ F M k
def WC (X : Cx) (op : CmpOp) (a b : Expr) : TE := fun σ H Q => ∀ (pins : List (Addr × Obj)) (s : Shared), Inv X pins σ H s →
  wpAny (model X.prog X.w) X.A (eval a X.env) (fun v s₁ => wpAny (model X.prog X.w) X.A (eval b X.env) (fun u s₂ => wpAny (model X.prog X.w) X.A (compareOp op v u) (EP X pins σ Q) X.xe s₂) X.xe s₁) X.xe s
theorem pc_w (op : CmpOp) (a b : Expr) : PC X op a b (WC X op a b) := ⟨fun pins s σ H Q I h => h pins s I⟩
theorem wc_of {op : CmpOp} {t : TE} {H : Hp} {Q : VK} (p : PC X op a b t) (h : t σ H Q) : WC X op a b σ H Q := fun pins s I => p.run pins s σ H Q I h
theorem pc_R {op : CmpOp} {ta tb : TE} {r : R2} (ho : OpR X (compareOp op) r) (ha : PE X a ta) (hb : PE X b tb) : PC X op a b (tOp r ta tb) :=
  ⟨fun pins s σ H Q I h => bin ha hb I h fun v u s2 x y H2 I2 rx ry q => ho pins s2 σ H2 x y v u Q I2 rx ry q⟩
def EvC (X : Cx) (op : CmpOp) (a b : Expr) (σ : L2.St) (F M : Hp) (k : Bool) : Prop :=
  ∀ F1 H1, Same F F1 → Own F1 M H1 → ∀ Q : VK, (∀ F2 H2, Same F1 F2 → Own F2 M H2 → Q (.bl k) H2) → WC X op a b σ H1 Q
theorem bx_c {op : CmpOp} {k : Bool} (h : EvC X op a b σ F M k) (hm : behindInMarks op b = false := by first | exact nomark _ | rfl) : Bx X (.Compare a [op] [b] pos) σ F M k :=
  ⟨fun F1 H1 s w Q q => we_of (pe_cmp (pc_w op a b) hm) (h F1 H1 s w Q fun F2 H2 s2 w2 => q F2 H2 _ s2 w2 rfl),
   fun F1 H1 s w Q q => wt_of (pt_cmp (pc_w op a b) hm) (h F1 H1 s w _ fun F2 H2 s2 w2 => ⟨k, rfl, q F2 H2 s2 w2⟩)⟩
/-- a comparison by its rule on values -/
theorem ec_R {op : CmpOp} {rr : R2} {Φ Ψ : Hp → V → Prop} {k : Bool} (ho : OpR X (compareOp op) rr) (ha : Ev X a σ F M Φ) (hb : Ev X b σ F M Ψ) (hup : ∀ F F' v, Same F F' → Φ F v → Φ F' v)
    (h : ∀ F1 H1 v u, Same F F1 → Own F1 M H1 → Φ F1 v → Ψ F1 u → ∀ Q : VK, Q (.bl k) H1 → rr v u H1 Q) : EvC X op a b σ F M k :=
  fun F1 H1 s w Q q => wc_of (pc_R ho (pe_w a) (pe_w b)) (ha F1 H1 s w _ fun F2 H2 v s2 w2 hv => hb F2 H2 (s.trans s2) w2 _ fun F3 H3 u s3 w3 hu => h F3 H3 v u ((s.trans s2).trans s3) w3 (hup _ _ _ s3 hv) hu Q (q F3 H3 (s2.trans s3) w3))
theorem ec_I0 {op : CmpOp} {g : Int → Int → Bool} {i j : Int} (ho : OpR X (compareOp op) (rI0 fun i j => .bl (g i j))) (ha : EvF X a σ F M iR i) (hb : EvF X b σ F M iR j) : EvC X op a b σ F M (g i j) :=
  ec_R ho ha hb (fun _ _ _ _ h => h) fun _ _ _ _ _ _ hv hu _ q => ⟨i, j, hv, hu, q⟩
theorem bx_lt {i j : Int} (ha : EvF X a σ F M iR i) (hb : EvF X b σ F M iR j) : Bx X (.Compare a [.Lt] [b] pos) σ F M (decide (i < j)) := bx_c (ec_I0 (g := fun i j => decide (i < j)) op_lt ha hb)
theorem bx_le {i j : Int} (ha : EvF X a σ F M iR i) (hb : EvF X b σ F M iR j) : Bx X (.Compare a [.LtE] [b] pos) σ F M (decide (i ≤ j)) := bx_c (ec_I0 (g := fun i j => decide (i ≤ j)) op_le ha hb)
theorem bx_gt {i j : Int} (ha : EvF X a σ F M iR i) (hb : EvF X b σ F M iR j) : Bx X (.Compare a [.Gt] [b] pos) σ F M (decide (j < i)) := bx_c (ec_I0 (g := fun i j => decide (j < i)) op_gt ha hb)
theorem bx_ge {i j : Int} (ha : EvF X a σ F M iR i) (hb : EvF X b σ F M iR j) : Bx X (.Compare a [.GtE] [b] pos) σ F M (decide (j ≤ i)) := bx_c (ec_I0 (g := fun i j => decide (j ≤ i)) op_ge ha hb)
theorem bx_eqI {i j : Int} (ha : EvF X a σ F M iR i) (hb : EvF X b σ F M iR j) : Bx X (.Compare a [.Eq] [b] pos) σ F M (decide (i = j)) :=
  bx_c (ec_R op_eq ha hb (fun _ _ _ _ h => h) fun _ _ v u _ _ hv hu Q q => by
    cases (show v = V.int i from hv); cases (show u = V.int j from hu)
    refine ⟨rfl, ?_⟩
    rw [dec_int]; exact q)
theorem bx_neI {i j : Int} (ha : EvF X a σ F M iR i) (hb : EvF X b σ F M iR j) : Bx X (.Compare a [.NotEq] [b] pos) σ F M (!decide (i = j)) :=
  bx_c (ec_R op_ne ha hb (fun _ _ _ _ h => h) fun _ _ v u _ _ hv hu Q q => by
    cases (show v = V.int i from hv); cases (show u = V.int j from hu)
    refine ⟨rfl, ?_⟩
    rw [dec_int]; exact q)
theorem bx_eqS {i j : Str} (ha : EvF X a σ F M sR i) (hb : EvF X b σ F M sR j) : Bx X (.Compare a [.Eq] [b] pos) σ F M (decide (i = j)) :=
  bx_c (ec_R op_eq ha hb (fun _ _ _ _ h => h) fun _ _ v u _ _ hv hu Q q => by
    cases hv.1; cases hu.1
    refine ⟨rfl, ?_⟩
    rw [dec_str]; exact q)
theorem bx_neS {i j : Str} (ha : EvF X a σ F M sR i) (hb : EvF X b σ F M sR j) : Bx X (.Compare a [.NotEq] [b] pos) σ F M (!decide (i = j)) :=
  bx_c (ec_R op_ne ha hb (fun _ _ _ _ h => h) fun _ _ v u _ _ hv hu Q q => by
    cases hv.1; cases hu.1
    refine ⟨rfl, ?_⟩
    rw [dec_str]; exact q)
/-- a value that is a truth -/
theorem bx_val {k : Bool} (h : EvF X e σ F M bR k) (he : ∀ whole, isTrue e X.env whole = (do let v ← whole; standAt e.pos; holding [v] (truthy v)) := by intro _; rfl) : Bx X e σ F M k :=
  ⟨h, fun F1 H1 s w Q q => wt_of (pt_val (pe_w e) he) (h F1 H1 s w _ fun F2 H2 v s2 w2 hv => ⟨k, hv, q F2 H2 s2 w2⟩)⟩
theorem Bx.eq {k j : Bool} (h : Bx X e σ F M k) (q : k = j) : Bx X e σ F M j := q ▸ h
theorem bx_not {k : Bool} (h : Bx X a σ F M k) : Bx X (.UnaryOp .Not a pos) σ F M (!k) :=
  ⟨fun F1 H1 s w Q q => we_of (pe_not (pe_w a)) (h.1 F1 H1 s w _ fun F2 H2 v s2 w2 hv => ⟨k, hv, q F2 H2 _ s2 w2 rfl⟩),
   fun F1 H1 s w Q q => wt_of (pt_not (pt_w a)) (h.2 F1 H1 s w _ fun F2 H2 s2 w2 => q F2 H2 s2 w2)⟩
/-- and, or: a list of them -/
def BxL (X : Cx) (op : BoolOp) (es : List Expr) (pos : Pos) (σ : L2.St) (F M : Hp) (k : Bool) : Prop := EvF X (.BoolOp op es pos) σ F M bR k ∧ EvW X (.BoolOp op es pos) σ F M k
variable {rest : List Expr}
theorem bl_one_and {k : Bool} (h : Bx X a σ F M k) : BxL X .And [a] pos σ F M k :=
  ⟨fun F1 H1 s w Q q => we_of (pe_one (pe_w a)) (h.1 F1 H1 s w Q q), fun F1 H1 s w Q q => ww_of (pw_and1 (pt_w a)) (h.2 F1 H1 s w Q q)⟩
theorem bl_one_or {k : Bool} (h : Bx X a σ F M k) : BxL X .Or [a] pos σ F M k :=
  ⟨fun F1 H1 s w Q q => we_of (pe_one (pe_w a)) (h.1 F1 H1 s w Q q), fun F1 H1 s w Q q => ww_of (pw_or1 (pt_w a)) (h.2 F1 H1 s w Q q)⟩
theorem bl_and {k j : Bool} (h : Bx X a σ F M k) (t : k = true → BxL X .And (b :: rest) pos σ F M j) : BxL X .And (a :: b :: rest) pos σ F M (k && j) := by
  refine ⟨fun F1 H1 s w Q q => we_of (pe_and (pe_w a) (pe_w _)) (h.1 F1 H1 s w _ fun F2 H2 v s2 w2 hv => ⟨k, hv, ?_⟩), fun F1 H1 s w Q q => ww_of (pw_and (pt_w a) (pw_w _)) (h.2 F1 H1 s w _ fun F2 H2 s2 w2 => ?_)⟩
  · cases k with
    | true => exact (t rfl).1 F2 H2 (s.trans s2) w2 Q fun F3 H3 u s3 w3 hu => q F3 H3 u (s2.trans s3) w3 hu
    | false => exact q F2 H2 _ s2 w2 rfl
  · cases k with
    | true => exact (t rfl).2 F2 H2 (s.trans s2) w2 Q fun F3 H3 s3 w3 => q F3 H3 (s2.trans s3) w3
    | false => exact q F2 H2 s2 w2
theorem bl_or {k j : Bool} (h : Bx X a σ F M k) (t : k = false → BxL X .Or (b :: rest) pos σ F M j) : BxL X .Or (a :: b :: rest) pos σ F M (k || j) := by
  refine ⟨fun F1 H1 s w Q q => we_of (pe_or (pe_w a) (pe_w _)) (h.1 F1 H1 s w _ fun F2 H2 v s2 w2 hv => ⟨k, hv, ?_⟩), fun F1 H1 s w Q q => ww_of (pw_or (pt_w a) (pw_w _)) (h.2 F1 H1 s w _ fun F2 H2 s2 w2 => ?_)⟩
  · cases k with
    | false => exact (t rfl).1 F2 H2 (s.trans s2) w2 Q fun F3 H3 u s3 w3 hu => q F3 H3 u (s2.trans s3) w3 hu
    | true => exact q F2 H2 _ s2 w2 rfl
  · cases k with
    | false => exact (t rfl).2 F2 H2 (s.trans s2) w2 Q fun F3 H3 s3 w3 => q F3 H3 (s2.trans s3) w3
    | true => exact q F2 H2 s2 w2
theorem bx_l {op : BoolOp} {es : List Expr} {k : Bool} (h : BxL X op es pos σ F M k) : Bx X (.BoolOp op es pos) σ F M k :=
  ⟨h.1, fun F1 H1 s w Q q => wt_of (PW.pt (pw_w _)) (h.2 F1 H1 s w Q q)⟩
theorem ev_if {Φ : Hp → V → Prop} {k : Bool} (hc : Bx X c σ F M k) (h1 : k = true → Ev X a σ F M Φ) (h2 : k = false → Ev X b σ F M Φ) : Ev X (.IfExp c a b pos) σ F M Φ :=
  fun F1 H1 s w Q q => we_of (pe_ifExp (pt_w c) (pe_w a) (pe_w b)) (hc.2 F1 H1 s w _ fun F2 H2 s2 w2 => by
    cases k with
    | true => exact h1 rfl F2 H2 (s.trans s2) w2 Q fun F3 H3 u s3 w3 hu => q F3 H3 u (s2.trans s3) w3 hu
    | false => exact h2 rfl F2 H2 (s.trans s2) w2 Q fun F3 H3 u s3 w3 hu => q F3 H3 u (s2.trans s3) w3 hu)

/-! argument lists -/
theorem ea_nil : EvA X [] σ F M fun _ vs => vs = [] := fun F1 H1 s w Q q => wa_of pa_nil (q F1 H1 _ (Same.refl _) w rfl)
theorem ea_cons {es : List Expr} {x : α} [m : Mono r] {Ψ : Hp → List V → Prop} (ha : EvF X a σ F M r x) (h : EvA X es σ F M Ψ) (hs : starEach (a :: es) X.env = (false, eval a X.env) :: starEach es X.env := by rfl) :
    EvA X (a :: es) σ F M fun F vs => ∃ v us, vs = v :: us ∧ r F v x ∧ Ψ F us :=
  fun F1 H1 s w Q q => wa_of (pa_cons (pe_w a) (pa_w es) hs) (ha F1 H1 s w _ fun F2 H2 v s2 w2 hv => h F2 H2 (s.trans s2) w2 _ fun F3 H3 us s3 w3 hu => q F3 H3 _ (s2.trans s3) w3 ⟨v, us, rfl, m.mono s3 hv, hu⟩)
/-- the arguments as one list of things of one kind -/
theorem ea_nilL : EvA X [] σ F M fun F vs => A2 (r F) vs [] := fun F1 H1 s w Q q => wa_of pa_nil (q F1 H1 _ (Same.refl _) w .nil)
theorem ea_consL {es : List Expr} {x : α} {xs : List α} [m : Mono r] (ha : EvF X a σ F M r x) (h : EvA X es σ F M fun F vs => A2 (r F) vs xs) (hs : starEach (a :: es) X.env = (false, eval a X.env) :: starEach es X.env := by rfl) :
    EvA X (a :: es) σ F M fun F vs => A2 (r F) vs (x :: xs) :=
  fun F1 H1 s w Q q => wa_of (pa_cons (pe_w a) (pa_w es) hs) (ha F1 H1 s w _ fun F2 H2 v s2 w2 hv => h F2 H2 (s.trans s2) w2 _ fun F3 H3 us s3 w3 hu => q F3 H3 _ (s2.trans s3) w3 (.cons (m.mono s3 hv) hu))
theorem small_of {n : Nat} (h : n ≤ 1000000) : n ≤ sizeLine := Nat.le_trans h (by decide)
/-- a new list: its address is in neither part -/
def EvN (X : Cx) (e : Expr) (σ : L2.St) (F M : Hp) {α : Type} (r : Rep α) (xs : List α) : Prop :=
  ∀ F1 H1, Same F F1 → Own F1 M H1 → ∀ Q : VK, (∀ F2 H2 a vs, Same F1 F2 → Own F2 M H2 → F2 a = none → M a = none → H2 a = some (.lst vs) → A2 (r F2) vs xs → Q (.ref a) H2) → WE X e σ H1 Q
theorem Own.keepF {F M H : Hp} {a : Addr} {o : HO} (w : Own F M H) (h1 : F a = none) (h2 : M a = none) (h : H a = some o) : Own (upd F a o) M H :=
  ⟨fun b x e => by
    by_cases q : b = a
    · subst q; rw [upd_same] at e; cases e; exact h
    · rw [upd_ne q] at e; exact w.f b x e, w.m, fun b x e => by
    by_cases q : b = a
    · subst q; rw [h2] at e; cases e
    · rw [upd_ne q]; exact w.d b x e⟩
theorem Own.keepM {F M H : Hp} {a : Addr} {o : HO} (w : Own F M H) (h1 : F a = none) (h2 : M a = none) (h : H a = some o) : Own F (upd M a o) H :=
  ⟨w.f, fun b x e => by
    by_cases q : b = a
    · subst q; rw [upd_same] at e; cases e; exact h
    · rw [upd_ne q] at e; exact w.m b x e, fun b x e => by
    by_cases q : b = a
    · subst q; exact h1
    · rw [upd_ne q] at e; exact w.d b x e⟩
theorem EvN.fz {xs : List α} [m : Mono r] (h : EvN X e σ F M r xs) : EvF X e σ F M (lR r) xs := fun F1 H1 s w Q q => h F1 H1 s w Q fun F2 H2 a vs s2 w2 n1 n2 hh h2 =>
  q _ H2 _ (s2.trans (same_new n1)) (w2.keepF n1 n2 hh) ⟨a, vs, rfl, upd_same, h2.up (same_new n1)⟩
theorem en_lst {es : List Expr} {xs : List α} [m : Mono r] (h : EvA X es σ F M fun F vs => A2 (r F) vs xs) (hl : xs.length ≤ 1000000 := by simp) : EvN X (.List es pos) σ F M r xs :=
  fun F1 H1 s w Q q => we_of (pe_lst (pa_w es)) (h F1 H1 s w _ fun F2 H2 vs s2 w2 hv => ⟨small_of (by rw [hv.len]; exact hl), fun p hp => by
    refine q F2 _ p vs s2 ?_ (w2.noF hp) (w2.noM hp) upd_same hv
    exact ⟨same_in w2.f (w2.noF hp), same_in w2.m (w2.noM hp), w2.d⟩⟩)
theorem ev_t2 {a b : Expr} {x : α} {y : β} {x1} [m : Mono r] [n : Mono s] (ha : EvF X a σ F M r x) (hb : EvF X b σ F M s y) (hs : starEach [a, b] X.env = (false, eval a X.env) :: starEach [b] X.env := by rfl) (hs2 : starEach [b] X.env = (false, eval b X.env) :: starEach [] X.env := by rfl) :
    EvF X (.Tuple [a, b] x1 pos) σ F M (t2R r s) (x, y) :=
  fun F1 H1 s w Q q => we_of (pe_tup (pa_w [a, b])) (ea_cons ha (ea_cons hb ea_nil hs2) hs F1 H1 s w _ fun F2 H2 vs s2 w2 ⟨v, us, e1, h1, u, us2, e2, h2, e3⟩ => by
    subst e1 e2 e3
    refine ⟨small_of (by simp), fun p hp => ?_⟩
    exact q _ _ _ (s2.trans (same_new (w2.noF hp))) (w2.newF hp) ⟨p, v, u, rfl, upd_same, m.mono (same_new (w2.noF hp)) h1, n.mono (same_new (w2.noF hp)) h2⟩)
theorem ev_t3 {γ : Type} {t : Rep γ} {a b c : Expr} {x : α} {y : β} {z : γ} {x1} [m : Mono r] [n : Mono s] [k : Mono t] (ha : EvF X a σ F M r x) (hb : EvF X b σ F M s y) (hc : EvF X c σ F M t z) (hs : starEach [a, b, c] X.env = (false, eval a X.env) :: starEach [b, c] X.env := by rfl)
    (hs1 : starEach [b, c] X.env = (false, eval b X.env) :: starEach [c] X.env := by rfl) (hs2 : starEach [c] X.env = (false, eval c X.env) :: starEach [] X.env := by rfl) :
    EvF X (.Tuple [a, b, c] x1 pos) σ F M (t3R r s t) (x, y, z) :=
  fun F1 H1 s w Q q => we_of (pe_tup (pa_w [a, b, c])) (ea_cons ha (ea_cons hb (ea_cons hc ea_nil hs2) hs1) hs F1 H1 s w _ fun F2 H2 vs s2 w2 ⟨v, us, e1, h1, u, us2, e2, h2, u3, us3, e3, h3, e4⟩ => by
    subst e1 e2 e3 e4
    refine ⟨small_of (by simp), fun p hp => ?_⟩
    exact q _ _ _ (s2.trans (same_new (w2.noF hp))) (w2.newF hp) ⟨p, v, u, u3, rfl, upd_same, m.mono (same_new (w2.noF hp)) h1, n.mono (same_new (w2.noF hp)) h2, k.mono (same_new (w2.noF hp)) h3⟩)
end
end Y

namespace Y
open PySem PySem.Spec PyProof.Rows L2
section
variable {X : Cx} {σ : L2.St} {F M : Hp} {a b c e : Expr} {pos p : Pos} {α β γ : Type} {r : Rep α} {s : Rep β} {t : Rep γ} {x n : Str}

/-! ### built-ins that are called by name -/
theorem ev_len {xs : List α} (hm : X.mg "len" = none) (ha : EvF X a σ F M (rdR X.K M r) xs) (hg : Gl X "len" := by rfl) (he : starEach [a] X.env = (false, eval a X.env) :: starEach [] X.env := by rfl) (hpl : (backTo pos (starEach [] X.env)).any (·.1) = false := by rfl) :
    EvF X (.Call (.Name "len" p) [a] [] pos) σ F M iR (xs.length : Int) :=
  fun F1 H1 s w Q q => we_of (pe_callB call_len_seq hg hm PySem.boot_len (pa_cons (pe_w a) pa_nil he) (he := he) (hpl := hpl)) (ha F1 H1 s w _ fun F2 H2 v s2 w2 ⟨l, vs, e, hl, h2⟩ =>
    ⟨l, vs, by rw [e], .inl (w2.sq hl), q F2 H2 _ s2 w2 (by show V.int _ = V.int _; rw [h2.len])⟩)
/-- list(xs): a new one -/
theorem en_list {xs : List α} [m : Mono r] (hm : X.mg "list" = none) (ha : EvF X a σ F M (rdR X.K M r) xs) (hg : Gl X "list" := by rfl) (he : starEach [a] X.env = (false, eval a X.env) :: starEach [] X.env := by rfl) (hpl : (backTo pos (starEach [] X.env)).any (·.1) = false := by rfl) :
    EvN X (.Call (.Name "list" p) [a] [] pos) σ F M r xs :=
  fun F1 H1 s w Q q => we_of (pe_callTy call_list_of hg hm (by decide +kernel) (pa_cons (pe_w a) pa_nil he) (he := he) (hpl := hpl)) (ha F1 H1 s w _ fun F2 H2 v s2 w2 ⟨l, vs, e, hl, h2⟩ =>
    ⟨l, vs, by rw [e], .inl (w2.sq hl), fun l hp => q F2 _ l vs s2 ⟨same_in w2.f (w2.noF hp), same_in w2.m (w2.noM hp), w2.d⟩ (w2.noF hp) (w2.noM hp) upd_same h2⟩)
theorem ev_max2 {i j : Int} (hc : X.calm = true) (hm : X.mg "max" = none) (ha : EvF X a σ F M iR i) (hb : EvF X b σ F M iR j) (hg : Gl X "max" := by rfl) (he : starEach [a, b] X.env = (false, eval a X.env) :: starEach [b] X.env := by rfl) (he2 : starEach [b] X.env = (false, eval b X.env) :: starEach [] X.env := by rfl) (hpl : (backTo pos (starEach [b] X.env)).any (·.1) = false := by rfl) :
    EvF X (.Call (.Name "max" p) [a, b] [] pos) σ F M iR (max i j) :=
  fun F1 H1 s w Q q => we_of (pe_callB (call_max2 hc) hg hm (by decide +kernel) (pa_cons (pe_w a) (pa_cons (pe_w b) pa_nil he2) he) (he := he) (hpl := hpl)) (ha F1 H1 s w _ fun F2 H2 v s2 w2 hv => hb F2 H2 (s.trans s2) w2 _ fun F3 H3 u s3 w3 hu =>
    ⟨i, j, by rw [show v = V.int i from hv, show u = V.int j from hu], q F3 H3 _ (s2.trans s3) w3 (by show V.int _ = V.int _; congr 1; rw [Int.max_def]; split <;> split <;> omega)⟩)
end

/-! ### statements -/
section
variable {X : Cx} {σ σ' : L2.St} {F M H : Hp} {a b c e : Expr} {pos p : Pos} {α β γ : Type} {r : Rep α} {n : Str} {rest : List Stmt} {D : Ends}
theorem ss_nil (h : D.nx σ H) : WSs X [] D σ H := wss_nil h
theorem ss_set (i : Nat) {Φ : Hp → V → Prop} (he : Ev X e σ F M Φ) (w : Own F M H) (k : ∀ F2 H2 v, Same F F2 → Own F2 M H2 → Φ F2 v → WSs X rest D (σ.set i (some v)) H2)
    (hN : X.N.Nodup) (hi : X.N[i]? = some n := by rfl) (hx : Loc X.env.scope n := by first | exact Or.inl rfl | exact Or.inr rfl) (hs : swapsWith e (some (.Name n p)) pos.line X.env = pure false := by rfl) (hf : X.fn n = true ∨ X.env.scope.names.lookup n = some .local := by first | exact .inl rfl | exact .inr rfl) :
    WSs X (.Assign [.Name n p] e pos :: rest) D σ H :=
  wss_cons (ws_of (ps_set hN hi hx (pe_w e) hs hf) (he F H (Same.refl _) w _ fun F2 H2 v s2 w2 hv => k F2 H2 v s2 w2 hv))
/-- a number, a truth: what stands for good need not grow -/
theorem ss_setI (i : Nat) {x : Int} (he : EvF X e σ F M iR x) (w : Own F M H) (k : ∀ H2, Own F M H2 → WSs X rest D (σ.set i (some (.int x))) H2)
    (hN : X.N.Nodup) (hi : X.N[i]? = some n := by rfl) (hx : Loc X.env.scope n := by first | exact Or.inl rfl | exact Or.inr rfl) (hs : swapsWith e (some (.Name n p)) pos.line X.env = pure false := by rfl) (hf : X.fn n = true ∨ X.env.scope.names.lookup n = some .local := by first | exact .inl rfl | exact .inr rfl) :
    WSs X (.Assign [.Name n p] e pos :: rest) D σ H :=
  ss_set i he w (fun F2 H2 v s2 w2 hv => by cases (show v = V.int x from hv); exact k H2 (w2.lessF s2)) hN hi hx hs hf
/-- a new list, to be one's own -/
theorem ss_setN (i : Nat) {xs : List α} (he : EvN X e σ F M r xs) (w : Own F M H) (k : ∀ F2 H2 l vs, Same F F2 → M l = none → Own F2 (upd M l (.lst vs)) H2 → A2 (r F2) vs xs → WSs X rest D (σ.set i (some (.ref l))) H2)
    (hN : X.N.Nodup) (hi : X.N[i]? = some n := by rfl) (hx : Loc X.env.scope n := by first | exact Or.inl rfl | exact Or.inr rfl) (hs : swapsWith e (some (.Name n p)) pos.line X.env = pure false := by rfl) (hf : X.fn n = true ∨ X.env.scope.names.lookup n = some .local := by first | exact .inl rfl | exact .inr rfl) :
    WSs X (.Assign [.Name n p] e pos :: rest) D σ H :=
  wss_cons (ws_of (ps_set hN hi hx (pe_w e) hs hf) (he F H (Same.refl _) w _ fun F2 H2 l vs s2 w2 n1 n2 hh h2 => k F2 H2 l vs s2 n2 (w2.keepM n1 n2 hh) h2))
theorem ss_ret {Φ : Hp → V → Prop} (he : Ev X e σ F M Φ) (w : Own F M H) (k : ∀ F2 H2 v, Same F F2 → Own F2 M H2 → Φ F2 v → D.rt v H2) : WSs X (.Return (some e) pos :: rest) D σ H :=
  wss_cons (ws_of (ps_ret (pe_w e)) (he F H (Same.refl _) w _ fun F2 H2 v s2 w2 hv => k F2 H2 v s2 w2 hv))
theorem ss_if {th el : List Stmt} {k : Bool} (hc : Bx X c σ F M k) (w : Own F M H) (h1 : k = true → ∀ H2, Own F M H2 → WSs X th (thn X rest D) σ H2) (h2 : k = false → ∀ H2, Own F M H2 → WSs X el (thn X rest D) σ H2) :
    WSs X (.If c th el pos :: rest) D σ H :=
  wss_cons (ws_of (ps_if (pt_w c) (pss_w th) (pss_w el)) (hc.2 F H (Same.refl _) w _ fun F2 H2 s2 w2 => by
    cases k with
    | true => exact h1 rfl H2 (w2.lessF s2)
    | false => exact h2 rfl H2 (w2.lessF s2)))
theorem ss_append {l : Addr} {vs : List V} {x : α} (i : Nat) {cpos apos npos : Pos} (hs : σ[i]? = some (some (.ref l))) (hM : M l = some (.lst vs)) (he : EvF X e σ F M r x) (w : Own F M H) (hz : vs.length < 1000000)
    (k : ∀ F2 M2 H2 v, Same F F2 → M2 = upd M l (.lst (vs ++ [v])) → Own F2 M2 H2 → r F2 v x → WSs X rest D σ H2) (hN : X.N[i]? = some n := by rfl)
    (hv : Vis X.env.scope n := by first | exact Or.inl rfl | exact Or.inr (Or.inl rfl) | exact Or.inr (Or.inr rfl)) (hd : (n == ("__debug__" : Str)) = false := by decide) (hcd : (n == ("__classdict__" : Str)) = false := by decide)
    (hbase : attributeBase (.Name n npos) "append" X.env (eval (.Name n npos) X.env) = eval (.Name n npos) X.env := by rfl)
    (hfew : ((backTo cpos (starEach [e] X.env)).all (fun x => !x.1) && (backToKw cpos (keywordEach [] X.env)).all (fun x => x.1.isSome)
      && decide ([e].length + ([] : List Keyword).length + (if ([] : List Keyword).isEmpty then 0 else 1) < 30)) = true := by rfl)
    (hline : (apos.endLine == cpos.line) = true := by rfl) (hst : starEach [e] X.env = (false, eval e X.env) :: starEach [] X.env := by rfl) (hplain : (backTo cpos (starEach [] X.env)).any (·.1) = false := by rfl)
    (hsw : swapsWith (.Call (.Attribute (.Name n npos) "append" apos) [e] [] cpos) none pos.line X.env = pure false := by rfl) :
    WSs X (.Expr (.Call (.Attribute (.Name n npos) "append" apos) [e] [] cpos) pos :: rest) D σ H :=
  wss_cons (ws_of (ps_expr (pe_bm PySem.F.plainAttrs_list PySem.F.slot_list_append PySem.F.type_list_append mt_append (pe_var hN hv hd hcd) (pa_cons (pe_w e) pa_nil hst) hbase hfew hline hst hplain) hsw)
    ⟨_, hs, .inl ⟨rfl, _, SqL.of (w.m _ _ hM)⟩, he F H (Same.refl _) w _ fun F2 H2 v s2 w2 hv => ⟨l, vs, v, rfl, rfl, w2.m _ _ hM, Nat.lt_of_lt_of_le hz (by decide), k F2 _ _ v s2 rfl (w2.put hM) hv⟩⟩)

/-! ### what is walked -/
def WI (X : Cx) (tg it : Expr) : TI := fun σ H R => ∀ (pins : List (Addr × Obj)) (s : Shared), Inv X pins σ H s →
  wpAny (model X.prog X.w) X.A (eval it X.env) (fun v s1 => wpAny (model X.prog X.w) X.A (pyIter v) (PIE X pins σ tg R) X.xe s1) X.xe s
theorem pi_w (tg it : Expr) : PI X tg it (WI X tg it) := ⟨fun pins s σ H R I h => h pins s I⟩
theorem wi_of {tg it : Expr} {wi : TI} {R : It → Hp → Prop} (p : PI X tg it wi) (h : wi σ H R) : WI X tg it σ H R := fun pins s I => p.run pins s σ H R I h
/-- an iterator that gives these things, whatever is done meanwhile -/
def Yields (F0 : Hp) (J : It) {α : Type} (r : Rep α) (xs : List α) : Prop :=
  ∀ i F M H, Same F0 F → Own F M H → (xs.length ≤ i → J.stop i H) ∧ ∀ x, xs[i]? = some x → J.go i H ∧ ∀ v H', J.yld i H v H' → ∃ F', Same F F' ∧ Own F' M H' ∧ r F' v x
def EvI (X : Cx) (tg it : Expr) (σ : L2.St) (F M : Hp) {α : Type} (r : Rep α) (xs : List α) : Prop :=
  ∀ F1 H1, Same F F1 → Own F1 M H1 → ∀ R : It → Hp → Prop, (∀ F2 H2 J, Same F1 F2 → Own F2 M H2 → Yields F2 J r xs → R J H2) → WI X tg it σ H1 R
theorem ei_list {tg it : Expr} {xs : List α} [m : Mono r] (he : EvF X it σ F M (rsR X.K r) xs) : EvI X tg it σ F M r xs :=
  fun F1 H1 s w R q => wi_of (pi_list (pe_w it)) (he F1 H1 s w _ fun F2 H2 v s2 w2 ⟨l, vs, e, hl, h2⟩ => ⟨l, e, ⟨vs, Same.sql w2.f hl⟩, q F2 H2 _ s2 w2 fun i F3 M3 H3 s3 w3 =>
    ⟨fun hi => ⟨vs, Same.sql w3.f (Same.sql s3 hl), by rw [h2.len]; exact hi⟩, fun x hx => by
      obtain ⟨u, hu, hr⟩ := h2.get hx
      refine ⟨⟨vs, u, Same.sql w3.f (Same.sql s3 hl), hu⟩, fun v' H' hy => ?_⟩
      obtain ⟨rfl, hy⟩ := hy
      have e2 := hy vs (Same.sql w3.f (Same.sql s3 hl))
      rw [hu] at e2
      cases e2
      exact ⟨F3, Same.refl _, w3, m.mono s3 hr⟩⟩⟩)
/-- lo, lo + 1, .., so many -/
def rng (lo : Int) (n : Nat) : List Int := (List.range n).map fun (i : Nat) => lo + i
theorem rng_len {lo : Int} {n : Nat} : (rng lo n).length = n := by unfold rng; simp
theorem rng_get {lo : Int} {n i : Nat} : (rng lo n)[i]? = if i < n then some (lo + (i : Int)) else none := by
  unfold rng
  rw [List.getElem?_map]
  by_cases h : i < n
  · rw [if_pos h, List.getElem?_range h]; rfl
  · rw [if_neg h, List.getElem?_eq_none (by simpa using h)]; rfl
theorem rng_at {lo : Int} {n i : Nat} {k : Int} (h : (rng lo n)[i]? = some k) : i < n ∧ k = lo + (i : Int) := by
  rw [rng_get] at h
  by_cases hh : i < n
  · rw [if_pos hh] at h; cases h; exact ⟨hh, rfl⟩
  · rw [if_neg hh] at h; cases h
theorem rng_mem {lo : Int} {n : Nat} {k : Int} (h : k ∈ rng lo n) : lo ≤ k ∧ k < lo + n := by
  obtain ⟨i, hi⟩ := List.getElem?_of_mem h
  obtain ⟨h1, h2⟩ := rng_at hi
  omega
theorem yields_r {F : Hp} {lo : Int} {n : Nat} : Yields F (Itr lo n) iR (rng lo n) := fun i F3 M3 H3 s3 w3 =>
  ⟨fun hi => by rw [rng_len] at hi; exact hi, fun x hx => by
    rw [rng_get] at hx
    by_cases h : i < n
    · rw [if_pos h] at hx
      cases hx
      refine ⟨h, fun v H' hy => ?_⟩
      obtain ⟨rfl, rfl⟩ := hy
      exact ⟨F3, Same.refl _, w3, rfl⟩
    · rw [if_neg h] at hx; cases hx⟩
theorem ei_range1 {tg : Expr} {j : Int} (hm : X.mg "range" = none) (ha : EvF X a σ F M iR j) (hj : -(2 ^ 62) ≤ j ∧ j < 2 ^ 62) (hg : Gl X "range" := by rfl) (hs : starEach [a] X.env = [(false, eval a X.env)] := by rfl) (hs2 : starEach [a] X.env = (false, eval a X.env) :: starEach [] X.env := by rfl) :
    EvI X tg (.Call (.Name "range" p) [a] [] pos) σ F M iR (rng 0 j.toNat) :=
  fun F1 H1 s w R q => wi_of (pi_range1 hg hm (pa_cons (pe_w a) pa_nil hs2) hs) (ha F1 H1 s w _ fun F2 H2 v s2 w2 hv => ⟨j, by rw [show v = V.int j from hv], hj.1, hj.2, q F2 H2 _ s2 w2 yields_r⟩)
theorem ei_range2 {tg : Expr} {i j : Int} (hm : X.mg "range" = none) (ha : EvF X a σ F M iR i) (hb : EvF X b σ F M iR j) (hj : -(2 ^ 62) ≤ i ∧ i < 2 ^ 62 ∧ -(2 ^ 62) ≤ j ∧ j < 2 ^ 62) (hg : Gl X "range" := by rfl) (hs : starEach [a, b] X.env = [(false, eval a X.env), (false, eval b X.env)] := by rfl) (hs2 : starEach [b] X.env = [(false, eval b X.env)] := by rfl) :
    EvI X tg (.Call (.Name "range" p) [a, b] [] pos) σ F M iR (rng i (j - i).toNat) :=
  fun F1 H1 s w R q => wi_of (pi_range2 hg hm (pa_cons (pe_w a) (pa_cons (pe_w b) pa_nil (by rw [hs2]; rfl)) (by rw [hs, hs2])) hs hs2) (ha F1 H1 s w _ fun F2 H2 v s2 w2 hv => hb F2 H2 (s.trans s2) w2 _ fun F3 H3 u s3 w3 hu =>
    ⟨i, j, by rw [show v = V.int i from hv, show u = V.int j from hu], hj, q F3 H3 _ (s2.trans s3) w3 yields_r⟩)

/-! ### for -/
/-- the ends of a loop's body: N behind a turn; behind the loop what stands there -/
def lpe (X : Cx) (rest : List Stmt) (D : Ends) (N : L2.St → Hp → Prop) : Ends := { D with nx := N, ct := N, bk := WSs X rest D }
def Nx (F : Hp) (I : Nat → Hp → Hp → L2.St → Prop) (i : Nat) : L2.St → Hp → Prop := fun σ H => ∃ F2 M2, Same F F2 ∧ Own F2 M2 H ∧ I i F2 M2 σ
theorem ss_for_core {tg it : Expr} {body : List Stmt} {g : TG} {xs : List α} (he : EvI X tg it σ F M r xs) (w : Own F M H) (I : Nat → Hp → Hp → L2.St → Prop) (hg : PG X tg g)
    (h0 : ∀ F1, Same F F1 → I 0 F1 M σ)
    (hs : ∀ F0 i x v F1 M1 H1 σ1, Same F F0 → xs[i]? = some x → (∀ F2, Same F1 F2 → I i F2 M1 σ1) → Same F0 F1 → Own F1 M1 H1 → r F1 v x → g v σ1 H1 fun σ2 H2 => WSs X body (lpe X rest D (Nx F0 I (i + 1))) σ2 H2)
    (hd : ∀ F1 M1 H1 σ1, Same F F1 → Own F1 M1 H1 → I xs.length F1 M1 σ1 → WSs X rest D σ1 H1)
    (up : ∀ i F1 F2 M1 σ1, Same F1 F2 → I i F1 M1 σ1 → I i F2 M1 σ1)
    (hp : PassesOwn (model X.prog X.w) X.A X.env X.xe) (hc : X.calm = true := by rfl) (hf : ∀ x, foldedSetIterable it X.env x = pure x := by intro _; rfl) :
    WSs X (.For tg it body [] pos :: rest) D σ H := by
  refine wss_cons (ws_of (ps_for hp hc (pi_w tg it) hg (pss_w body) hf) (he F H (Same.refl _) w _ fun F2 H2 J s2 w2 hy => ?_))
  refine ⟨fun i m σ' H' => m = xs.length - i ∧ i ≤ xs.length ∧ Nx F2 I i σ' H', ⟨xs.length, by simp, Nat.zero_le _, F2, M, Same.refl _, w2, h0 F2 s2⟩, ?_⟩
  rintro i m σ' H' ⟨rfl, hi, F3, M3, s3, w3, hI⟩
  obtain ⟨y1, y2⟩ := hy i F3 M3 H' s3 w3
  by_cases hlt : i < xs.length
  · obtain ⟨g1, g2⟩ := y2 xs[i] (by simp [hlt])
    refine .inr ⟨g1, Nx F2 I (i + 1), fun σ4 H4 n4 => ⟨xs.length - (i + 1), by omega, rfl, hlt, n4⟩, fun v H4 hv => ?_⟩
    obtain ⟨F4, s4, w4, hr⟩ := g2 v H4 hv
    exact hs F2 i xs[i] v F4 M3 H4 σ' s2 (by simp [hlt]) (fun F5 s5 => up i F3 F5 M3 σ' (s4.trans s5) hI) (s3.trans s4) w4 hr
  · have e : i = xs.length := by omega
    subst e
    exact .inl ⟨y1 (Nat.le_refl _), hd F3 M3 H' σ' (s2.trans s3) w3 hI⟩
/-- for x in ..: x in slot j -/
theorem ss_for (j : Nat) {it : Expr} {body : List Stmt} {xs : List α} (he : EvI X (.Name n p) it σ F M r xs) (w : Own F M H) (I : Nat → Hp → Hp → L2.St → Prop)
    (h0 : ∀ F1, Same F F1 → I 0 F1 M σ) (up : ∀ i F1 F2 M1 σ1, Same F1 F2 → I i F1 M1 σ1 → I i F2 M1 σ1)
    (hs : ∀ F0 i x v F1 M1 H1 σ1, Same F F0 → xs[i]? = some x → I i F1 M1 σ1 → Same F0 F1 → Own F1 M1 H1 → r F1 v x → WSs X body (lpe X rest D (Nx F0 I (i + 1))) (σ1.set j (some v)) H1)
    (hd : ∀ F1 M1 H1 σ1, Same F F1 → Own F1 M1 H1 → I xs.length F1 M1 σ1 → WSs X rest D σ1 H1)
    (hp : PassesOwn (model X.prog X.w) X.A X.env X.xe) (hN : X.N.Nodup) (hi : X.N[j]? = some n := by rfl) (hx : Loc X.env.scope n := by first | exact Or.inl rfl | exact Or.inr rfl)
    (hfn : X.fn n = true ∨ X.env.scope.names.lookup n = some .local := by first | exact .inl rfl | exact .inr rfl) (hc : X.calm = true := by rfl) (hf : ∀ x, foldedSetIterable it X.env x = pure x := by intro _; rfl) :
    WSs X (.For (.Name n p) it body [] pos :: rest) D σ H :=
  ss_for_core he w I (pg_name hN hi hx hfn) h0 (fun F0 i x v F1 M1 H1 σ1 s0 hx hI s1 w1 hr => hs F0 i x v F1 M1 H1 σ1 s0 hx (hI F1 (Same.refl _)) s1 w1 hr) hd up hp hc hf
theorem ss_for2 {β γ : Type} {r1 : Rep β} {r2 : Rep γ} (j k : Nat) {n2 : Str} {p2 p3 : Pos} {ki} {it : Expr} {body : List Stmt} {xs : List (β × γ)} (he : EvI X (.Tuple [.Name n p, .Name n2 p2] ki p3) it σ F M (t2R r1 r2) xs) (w : Own F M H) (I : Nat → Hp → Hp → L2.St → Prop)
    (h0 : ∀ F1, Same F F1 → I 0 F1 M σ) (up : ∀ i F1 F2 M1 σ1, Same F1 F2 → I i F1 M1 σ1 → I i F2 M1 σ1)
    (hs : ∀ F0 i x y u v F1 M1 H1 σ1, Same F F0 → xs[i]? = some (x, y) → I i F1 M1 σ1 → Same F0 F1 → Own F1 M1 H1 → r1 F1 u x → r2 F1 v y → WSs X body (lpe X rest D (Nx F0 I (i + 1))) ((σ1.set j (some u)).set k (some v)) H1)
    (hd : ∀ F1 M1 H1 σ1, Same F F1 → Own F1 M1 H1 → I xs.length F1 M1 σ1 → WSs X rest D σ1 H1)
    (hp : PassesOwn (model X.prog X.w) X.A X.env X.xe) (hN : X.N.Nodup) (hi : X.N[j]? = some n := by rfl) (hx : Loc X.env.scope n := by first | exact Or.inl rfl | exact Or.inr rfl) (hi2 : X.N[k]? = some n2 := by rfl) (hx2 : Loc X.env.scope n2 := by first | exact Or.inl rfl | exact Or.inr rfl)
    (hfn : X.fn n = true ∨ X.env.scope.names.lookup n = some .local := by first | exact .inl rfl | exact .inr rfl) (hfn2 : X.fn n2 = true ∨ X.env.scope.names.lookup n2 = some .local := by first | exact .inl rfl | exact .inr rfl)
    (hc : X.calm = true := by rfl) (hf : ∀ x, foldedSetIterable it X.env x = pure x := by intro _; rfl)
    (q1 : (assignEach [.Name n p, .Name n2 p2] X.env).map (·.2) = assign (.Name n p) X.env :: (assignEach [.Name n2 p2] X.env).map (·.2) := by rfl) (q2 : (assignEach [.Name n2 p2] X.env).map (·.2) = assign (.Name n2 p2) X.env :: (assignEach [] X.env).map (·.2) := by rfl)
    (q3 : (assignEach [.Name n p, .Name n2 p2] X.env).length = 2 := by rfl) (q4 : (assignEach [.Name n p, .Name n2 p2] X.env).findIdx? (·.1) = none := by rfl) :
    WSs X (.For (.Tuple [.Name n p, .Name n2 p2] ki p3) it body [] pos :: rest) D σ H :=
  ss_for_core he w I (pg_tup hc (pgs_cons (pg_name hN hi hx hfn) (pgs_cons (pg_name hN hi2 hx2 hfn2) pgs_nil q2) q1) q3 q4) h0 (fun F0 i x v F1 M1 H1 σ1 s0 hx hI s1 w1 ⟨l, u1, u2, e, hl, h1, h2⟩ =>
    ⟨l, _, e, SqT.of (w1.f _ _ hl), rfl, u1, _, rfl, u2, _, rfl, rfl, hs F0 i x.1 x.2 u1 u2 F1 M1 H1 σ1 s0 hx (hI F1 (Same.refl _)) s1 w1 h1 h2⟩) hd up hp hc hf
theorem ss_for3 {β γ δ : Type} {r1 : Rep β} {r2 : Rep γ} {r3 : Rep δ} (j k l : Nat) {n2 n3 : Str} {p2 p3 p4 : Pos} {ki} {it : Expr} {body : List Stmt} {xs : List (β × γ × δ)} (he : EvI X (.Tuple [.Name n p, .Name n2 p2, .Name n3 p3] ki p4) it σ F M (t3R r1 r2 r3) xs) (w : Own F M H) (I : Nat → Hp → Hp → L2.St → Prop)
    (h0 : ∀ F1, Same F F1 → I 0 F1 M σ) (up : ∀ i F1 F2 M1 σ1, Same F1 F2 → I i F1 M1 σ1 → I i F2 M1 σ1)
    (hs : ∀ F0 i x y z u v t F1 M1 H1 σ1, Same F F0 → xs[i]? = some (x, y, z) → I i F1 M1 σ1 → Same F0 F1 → Own F1 M1 H1 → r1 F1 u x → r2 F1 v y → r3 F1 t z → WSs X body (lpe X rest D (Nx F0 I (i + 1))) (((σ1.set j (some u)).set k (some v)).set l (some t)) H1)
    (hd : ∀ F1 M1 H1 σ1, Same F F1 → Own F1 M1 H1 → I xs.length F1 M1 σ1 → WSs X rest D σ1 H1)
    (hp : PassesOwn (model X.prog X.w) X.A X.env X.xe) (hN : X.N.Nodup) (hi : X.N[j]? = some n := by rfl) (hx : Loc X.env.scope n := by first | exact Or.inl rfl | exact Or.inr rfl) (hi2 : X.N[k]? = some n2 := by rfl) (hx2 : Loc X.env.scope n2 := by first | exact Or.inl rfl | exact Or.inr rfl) (hi3 : X.N[l]? = some n3 := by rfl) (hx3 : Loc X.env.scope n3 := by first | exact Or.inl rfl | exact Or.inr rfl)
    (hfn : X.fn n = true ∨ X.env.scope.names.lookup n = some .local := by first | exact .inl rfl | exact .inr rfl) (hfn2 : X.fn n2 = true ∨ X.env.scope.names.lookup n2 = some .local := by first | exact .inl rfl | exact .inr rfl) (hfn3 : X.fn n3 = true ∨ X.env.scope.names.lookup n3 = some .local := by first | exact .inl rfl | exact .inr rfl)
    (hc : X.calm = true := by rfl) (hf : ∀ x, foldedSetIterable it X.env x = pure x := by intro _; rfl)
    (q1 : (assignEach [.Name n p, .Name n2 p2, .Name n3 p3] X.env).map (·.2) = assign (.Name n p) X.env :: (assignEach [.Name n2 p2, .Name n3 p3] X.env).map (·.2) := by rfl) (q2 : (assignEach [.Name n2 p2, .Name n3 p3] X.env).map (·.2) = assign (.Name n2 p2) X.env :: (assignEach [.Name n3 p3] X.env).map (·.2) := by rfl) (q2' : (assignEach [.Name n3 p3] X.env).map (·.2) = assign (.Name n3 p3) X.env :: (assignEach [] X.env).map (·.2) := by rfl)
    (q3 : (assignEach [.Name n p, .Name n2 p2, .Name n3 p3] X.env).length = 3 := by rfl) (q4 : (assignEach [.Name n p, .Name n2 p2, .Name n3 p3] X.env).findIdx? (·.1) = none := by rfl) :
    WSs X (.For (.Tuple [.Name n p, .Name n2 p2, .Name n3 p3] ki p4) it body [] pos :: rest) D σ H :=
  ss_for_core he w I (pg_tup hc (pgs_cons (pg_name hN hi hx hfn) (pgs_cons (pg_name hN hi2 hx2 hfn2) (pgs_cons (pg_name hN hi3 hx3 hfn3) pgs_nil q2') q2) q1) q3 q4) h0 (fun F0 i x v F1 M1 H1 σ1 s0 hx hI s1 w1 ⟨l', u1, u2, u3, e, hl, h1, h2, h3⟩ =>
    ⟨l', _, e, SqT.of (w1.f _ _ hl), rfl, u1, _, rfl, u2, _, rfl, u3, _, rfl, rfl, hs F0 i x.1 x.2.1 x.2.2 u1 u2 u3 F1 M1 H1 σ1 s0 hx (hI F1 (Same.refl _)) s1 w1 h1 h2 h3⟩) hd up hp hc hf
end
end Y

namespace Y
open PySem PySem.Spec PyProof.Rows L2
/-! ### comprehensions -/
section
variable {X : Cx} {σ : L2.St} {F M : Hp} {a b c e : Expr} {pos p : Pos} {α β γ δ : Type} {r : Rep α} {s : Rep β} {n : Str}
/-- the context of a comprehension's block -/
def Blk (X : Cx) (scope : Scope) (Y : Cx) : Prop := ∃ (s : Shared) (H : Hp) (C : Addr) (cl : List (Str × Addr)) (fp : List Addr), Y = X.blk s H scope (compEnvC scope cl C X.env) fp
def wTs (X : Cx) (scope : Scope) (ifs : List Expr) : TT := fun σ H Q => ∀ Y, Blk X scope Y → WTs Y ifs σ H Q
def wE (X : Cx) (scope : Scope) (elt : Expr) : TE := fun σ H Q => ∀ Y, Blk X scope Y → WE Y elt σ H Q
theorem lc_run {elt tg iter : Expr} {ifs : List Expr} {scope : Scope} (own : List (Str × Nat)) {g : TG} {xs : List α} [m : Mono s] (pr : α → Bool) (f : α → β)
    (hi : EvI X tg iter σ F M r xs)
    (ht : ∀ x v F1 M1 H1, x ∈ xs → Same F F1 → Same M M1 → Own F1 M1 H1 → r F1 v x → ∀ R : L2.St → Hp → Prop, (∀ σ2, wipe σ2 (own.map (·.2)) = wipe σ (own.map (·.2)) → (∀ Y, Blk X scope Y → EvTs Y ifs σ2 F1 M1 (pr x)) → (pr x = true → ∀ Y, Blk X scope Y → EvF Y elt σ2 F1 M1 s (f x)) → R σ2 H1) → g v (wipe σ (own.map (·.2))) H1 R)
    (hl : xs.length < 1000000)
    {F1 H1 : Hp} (s1 : Same F F1) (w1 : Own F1 M H1) {Q : VK} (q : ∀ F2 H2 a vs, Same F1 F2 → Own F2 M H2 → F2 a = none → M a = none → H2 a = some (.lst vs) → A2 (s F2) vs ((xs.filter pr).map f) → Q (.ref a) H2) :
    tLc (WI X tg iter) g (wTs X scope ifs) (wE X scope elt) (own.map (·.2)) σ H1 Q := by
  refine hi F1 H1 s1 w1 _ fun F2 H2 J s2 w2 hy => ?_
  intro D hD
  have nF := w2.noF hD
  have nM := w2.noM hD
  refine ⟨fun i k H' => k = xs.length - i ∧ i ≤ xs.length ∧ ∃ F' acc, Same F2 F' ∧ Own F' (upd M D (.lst acc)) H' ∧ acc.length ≤ i ∧ A2 (s F') acc (((xs.take i).filter pr).map f),
    ⟨xs.length, by simp, Nat.zero_le _, F2, [], Same.refl _, w2.newM hD, Nat.le_refl _, by simpa using A2.nil⟩, ?_⟩
  rintro i k H' ⟨rfl, hi2, F3, acc, s3, w3, hla, hA⟩
  obtain ⟨y1, y2⟩ := hy i F3 _ H' s3 w3
  by_cases hlt : i < xs.length
  · have hget : xs[i]? = some xs[i] := by simp [hlt]
    obtain ⟨g1, g2⟩ := y2 xs[i] hget
    have htk : xs.take (i + 1) = xs.take i ++ [xs[i]] := by rw [List.take_add_one, hget]; rfl
    refine .inr ⟨g1, fun H5 => ∃ F' acc, Same F2 F' ∧ Own F' (upd M D (.lst acc)) H5 ∧ acc.length ≤ i + 1 ∧ A2 (s F') acc (((xs.take (i + 1)).filter pr).map f), ?_, fun v H4 hv => ?_⟩
    · rintro H5 ⟨F', acc', z⟩
      exact ⟨xs.length - (i + 1), by omega, rfl, hlt, F', acc', z⟩
    · obtain ⟨F4, s4, w4, hr⟩ := g2 v H4 hv
      refine ht xs[i] v F4 _ H4 (List.getElem_mem hlt) (((s1.trans s2).trans s3).trans s4) (same_in (Same.refl M) nM) w4 hr _ fun σ2 hw h1 h2 => ⟨hw, ?_⟩
      intro Y hY
      refine h1 Y hY F4 H4 (Same.refl _) w4 _ fun F5 H5 s5 w5 => ?_
      cases hp : pr xs[i] with
      | false =>
        rw [if_neg Bool.false_ne_true]
        refine ⟨F5, acc, (s3.trans s4).trans s5, w5, by omega, ?_⟩
        rw [htk, List.filter_append]
        simp only [List.filter_cons, hp, List.filter_nil, Bool.false_eq_true, if_false, List.append_nil]
        exact hA.up (s4.trans s5)
      | true =>
        rw [if_pos rfl]
        intro Y2 hY2
        refine h2 hp Y2 hY2 F5 H5 s5 w5 _ fun F6 H6 u s6 w6 hu => ?_
        have hD6 : H6 D = some (.lst acc) := w6.m _ _ upd_same
        refine ⟨acc, hD6, Nat.lt_of_lt_of_le (show acc.length < 1000000 by omega) (by decide), F6, acc ++ [u], ((s3.trans s4).trans s5).trans s6, ?_, by simp; omega, ?_⟩
        · have := w6.put (p := D) (o := .lst (acc ++ [u])) upd_same
          rw [upd_upd] at this
          exact this
        · rw [htk, List.filter_append, List.map_append]
          simp only [List.filter_cons, hp, List.filter_nil, if_true, List.map_cons, List.map_nil]
          exact (hA.up ((s4.trans s5).trans s6)).push hu
  · have e : i = xs.length := by omega
    subst e
    refine .inl ⟨y1 (Nat.le_refl _), ?_⟩
    rw [List.take_length] at hA
    have wn : Own F3 M H' := w3.lessM (same_in (Same.refl M) nM)
    exact q F3 H' D acc (s2.trans s3) wn (w3.d D _ upd_same) nM (w3.m _ _ upd_same) hA
theorem en_lc_core {elt tg iter : Expr} {ifs : List Expr} {scope : Scope} (own : List (Str × Nat)) {g : TG} {xs : List α} [m : Mono s] (pr : α → Bool) (f : α → β)
    (hi : EvI X tg iter σ F M r xs)
    (hg : ∀ (s : Shared) (H : Hp) (C : Addr) (cl : List (Str × Addr)) (fp : List Addr), PG (X.blk s H scope (compEnvC scope cl C X.env) fp) tg g)
    (ht : ∀ x v F1 M1 H1, x ∈ xs → Same F F1 → Same M M1 → Own F1 M1 H1 → r F1 v x → ∀ R : L2.St → Hp → Prop, (∀ σ2, wipe σ2 (own.map (·.2)) = wipe σ (own.map (·.2)) → (∀ Y, Blk X scope Y → EvTs Y ifs σ2 F1 M1 (pr x)) → (pr x = true → ∀ Y, Blk X scope Y → EvF Y elt σ2 F1 M1 s (f x)) → R σ2 H1) → g v (wipe σ (own.map (·.2))) H1 R)
    (hl : xs.length < 1000000) (hN : X.N.Nodup) (ok : BlkOk X.N X.env.scope scope own) (hc : X.calm = true := by rfl) (hs : ∀ x, foldedSetIterable iter X.env x = pure x := by intro _; rfl) :
    EvN X (.ListComp elt [⟨tg, iter, ifs, 0⟩] scope pos) σ F M s ((xs.filter pr).map f) := fun F1 H1 s1 w1 Q q =>
  we_of (pe_lc (g := g) (tt := wTs X scope ifs) (te := wE X scope elt) hc hN (pi_w tg iter) ok hg (fun s' H' C cl fp => ⟨fun pins s2 σ2 H2 Q2 I h => h _ ⟨s', H', C, cl, fp, rfl⟩ pins s2 I⟩) (fun s' H' C cl fp => ⟨fun pins s2 σ2 H2 Q2 I h => h _ ⟨s', H', C, cl, fp, rfl⟩ pins s2 I⟩) hs)
    (lc_run own pr f hi ht hl s1 w1 q)
/-- y = [..] on one line, y in slot i, a plain local -/
theorem ss_lc_core (i : Nat) {y : Str} {py : Pos} {D : Ends} {rest : List Stmt} {spos : Pos} {H : Hp} {elt tg iter : Expr} {ifs : List Expr} {scope : Scope} (own : List (Str × Nat)) {g : TG} {xs : List α} [m : Mono s] (pr : α → Bool) (f : α → β)
    (hi : EvI X tg iter σ F M r xs)
    (hg : ∀ (s : Shared) (H : Hp) (C : Addr) (cl : List (Str × Addr)) (fp : List Addr), PG (X.blk s H scope (compEnvC scope cl C X.env) fp) tg g)
    (ht : ∀ x v F1 M1 H1, x ∈ xs → Same F F1 → Same M M1 → Own F1 M1 H1 → r F1 v x → ∀ R : L2.St → Hp → Prop, (∀ σ2, wipe σ2 (own.map (·.2)) = wipe σ (own.map (·.2)) → (∀ Y, Blk X scope Y → EvTs Y ifs σ2 F1 M1 (pr x)) → (pr x = true → ∀ Y, Blk X scope Y → EvF Y elt σ2 F1 M1 s (f x)) → R σ2 H1) → g v (wipe σ (own.map (·.2))) H1 R)
    (hl : xs.length < 1000000) (hN : X.N.Nodup) (ok : BlkOk X.N X.env.scope scope own) (w : Own F M H)
    (k : ∀ F2 H2 l vs, Same F F2 → M l = none → Own F2 (upd M l (.lst vs)) H2 → A2 (s F2) vs ((xs.filter pr).map f) → WSs X rest D (σ.set i (some (.ref l))) H2)
    (hy : X.N[i]? = some y) (hyl : X.env.scope.names.lookup y = some .local) (hsw : swapsWith (.ListComp elt [⟨tg, iter, ifs, 0⟩] scope pos) (some (.Name y py)) spos.line X.env = pure true)
    (hc : X.calm = true := by rfl) (hs : ∀ x, foldedSetIterable iter X.env x = pure x := by intro _; rfl) :
    WSs X (.Assign [.Name y py] (.ListComp elt [⟨tg, iter, ifs, 0⟩] scope pos) spos :: rest) D σ H :=
  wss_cons (ws_of (ps_setLc (i := i) (g := g) (tt := wTs X scope ifs) (te := wE X scope elt) hc hN hy hyl hsw (pi_w tg iter) ok hg (fun s' H' C cl fp => ⟨fun pins s2 σ2 H2 Q2 I h => h _ ⟨s', H', C, cl, fp, rfl⟩ pins s2 I⟩) (fun s' H' C cl fp => ⟨fun pins s2 σ2 H2 Q2 I h => h _ ⟨s', H', C, cl, fp, rfl⟩ pins s2 I⟩) hs)
    (lc_run own pr f hi ht hl (Same.refl _) w fun F2 H2 l vs s2 w2 n1 n2 hh hA => k F2 H2 l vs s2 n2 (w2.keepM n1 n2 hh) hA))
theorem ets_nil : EvTs X [] σ F M true := fun F1 H1 s w Q q => wts_of pts_nil (q F1 H1 (Same.refl _) w)
theorem ets_one {k : Bool} (h : Bx X c σ F M k) : EvTs X [c] σ F M k := fun F1 H1 s w Q q => wts_of (pts_one (pt_w c)) (h.2 F1 H1 s w Q q)
/-- [elt for x in it if ..], x in slot i -/
theorem en_lc (i : Nat) {elt it : Expr} {ifs : List Expr} {scope : Scope} {xs : List α} [m : Mono s] (pr : α → Bool) (f : α → β)
    (hi : EvI X (.Name n p) it σ F M r xs)
    (ht : ∀ x v F1 M1, x ∈ xs → Same F F1 → Same M M1 → r F1 v x → ∀ Y, Blk X scope Y → EvTs Y ifs (((wipe σ [i])).set i (some v)) F1 M1 (pr x) ∧ (pr x = true → EvF Y elt ((wipe σ [i]).set i (some v)) F1 M1 s (f x)))
    (hl : xs.length < 1000000) (hN : X.N.Nodup) (hb : blkC X.N X.env.scope scope [(n, i)] = true := by decide +kernel) (hc : X.calm = true := by rfl)
    (hg : ∀ (s : Shared) (H : Hp) (C : Addr) (cl : List (Str × Addr)) (fp : List Addr), PG (X.blk s H scope (compEnvC scope cl C X.env) fp) (.Name n p) (gName i) := by exact fun _ _ _ _ _ => pg_name (by assumption) rfl (Or.inl rfl))
    (hs : ∀ x, foldedSetIterable it X.env x = pure x := by intro _; rfl) :
    EvN X (.ListComp elt [⟨.Name n p, it, ifs, 0⟩] scope pos) σ F M s ((xs.filter pr).map f) :=
  en_lc_core [(n, i)] (g := gName i) pr f hi hg (fun x v F1 M1 H1 hx s1 s2 w hr R k => k _ (by
      show (List.set (List.set (List.set σ i none) i (some v)) i none) = List.set σ i none
      rw [List.set_set, List.set_set]) (fun Y hY => (ht x v F1 M1 hx s1 s2 hr Y hY).1) (fun hp Y hY => (ht x v F1 M1 hx s1 s2 hr Y hY).2 hp)) hl hN (blkOk_by hb) hc hs
/-- y = [elt for x in it if ..]: x in slot i, y in slot j -/
theorem ss_lc (j i : Nat) {y : Str} {py : Pos} {D : Ends} {rest : List Stmt} {spos : Pos} {H : Hp} {elt it : Expr} {ifs : List Expr} {scope : Scope} {xs : List α} [m : Mono s] (pr : α → Bool) (f : α → β)
    (hi : EvI X (.Name n p) it σ F M r xs)
    (ht : ∀ x v F1 M1, x ∈ xs → Same F F1 → Same M M1 → r F1 v x → ∀ Y, Blk X scope Y → EvTs Y ifs (((wipe σ [i])).set i (some v)) F1 M1 (pr x) ∧ (pr x = true → EvF Y elt ((wipe σ [i]).set i (some v)) F1 M1 s (f x)))
    (hl : xs.length < 1000000) (hN : X.N.Nodup) (w : Own F M H)
    (k : ∀ F2 H2 l vs, Same F F2 → M l = none → Own F2 (upd M l (.lst vs)) H2 → A2 (s F2) vs ((xs.filter pr).map f) → WSs X rest D (σ.set j (some (.ref l))) H2)
    (hy : X.N[j]? = some y := by rfl) (hyl : X.env.scope.names.lookup y = some .local := by rfl) (hsw : swapsWith (.ListComp elt [⟨.Name n p, it, ifs, 0⟩] scope pos) (some (.Name y py)) spos.line X.env = pure true := by exact sw_true rfl rfl rfl (by decide +kernel))
    (hb : blkC X.N X.env.scope scope [(n, i)] = true := by decide +kernel) (hc : X.calm = true := by rfl)
    (hg : ∀ (s : Shared) (H : Hp) (C : Addr) (cl : List (Str × Addr)) (fp : List Addr), PG (X.blk s H scope (compEnvC scope cl C X.env) fp) (.Name n p) (gName i) := by exact fun _ _ _ _ _ => pg_name (by assumption) rfl (Or.inl rfl))
    (hs : ∀ x, foldedSetIterable it X.env x = pure x := by intro _; rfl) :
    WSs X (.Assign [.Name y py] (.ListComp elt [⟨.Name n p, it, ifs, 0⟩] scope pos) spos :: rest) D σ H :=
  ss_lc_core j [(n, i)] (g := gName i) pr f hi hg (fun x v F1 M1 H1 hx s1 s2 w hr R k => k _ (by
      show (List.set (List.set (List.set σ i none) i (some v)) i none) = List.set σ i none
      rw [List.set_set, List.set_set]) (fun Y hY => (ht x v F1 M1 hx s1 s2 hr Y hY).1) (fun hp Y hY => (ht x v F1 M1 hx s1 s2 hr Y hY).2 hp)) hl hN (blkOk_by hb) w k hy hyl hsw hc hs
end

/-! ### subscripts -/
section
variable {X : Cx} {σ : L2.St} {F M : Hp} {a b c e : Expr} {pos p p2 : Pos} {α β γ δ : Type} {r : Rep α} {s : Rep β} {t : Rep γ} {n : Str}
/-- xs[i], from the end for i below 0 -/
def gI [Inhabited α] (xs : List α) (i : Int) : α := (atI xs i).getD default
theorem ixN_some {n : Nat} {i : Int} (h : -(n : Int) ≤ i ∧ i < n) : ∃ j, ixN n i = some j ∧ j < n := by
  unfold ixN
  by_cases h0 : 0 ≤ i
  · rw [if_pos h0, if_pos h.2]
    exact ⟨_, rfl, by omega⟩
  · rw [if_neg h0, if_pos h.1]
    exact ⟨_, rfl, by omega⟩
theorem A2.at [Inhabited α] {pp : V → α → Prop} {vs : List V} {xs : List α} {i : Int} (h : A2 pp vs xs) (hi : -(xs.length : Int) ≤ i ∧ i < xs.length) : ∃ v, atI vs i = some v ∧ pp v (gI xs i) := by
  obtain ⟨j, e, hj⟩ := ixN_some hi
  obtain ⟨v, hv, hp⟩ := h.get (i := j) (b := xs[j]) (by simp [hj])
  refine ⟨v, ?_, ?_⟩
  · unfold atI
    rw [h.len, e]
    exact hv
  · unfold gI atI
    rw [e]
    simpa [hj] using hp
theorem gI_nat [Inhabited α] {xs : List α} {i : Int} (h0 : 0 ≤ i) (h : i < xs.length) : xs[i.toNat]? = some (gI xs i) := by
  unfold gI atI ixN
  rw [if_pos h0, if_pos h]
  have : i.toNat < xs.length := by omega
  simp [this]
theorem gI_mem [Inhabited α] {xs : List α} {i : Int} (h : -(xs.length : Int) ≤ i ∧ i < xs.length) : gI xs i ∈ xs := by
  obtain ⟨j, e, hj⟩ := ixN_some h
  unfold gI atI
  rw [e]
  simp [hj]
theorem gI_last [Inhabited α] {xs : List α} (h : xs ≠ []) : gI xs (-1) = xs.getLast h := by
  have hl : 0 < xs.length := List.length_pos_iff.mpr h
  unfold gI atI ixN
  rw [if_neg (by omega), if_pos (by omega)]
  have e : ((-1 : Int) + (xs.length : Int)).toNat = xs.length - 1 := by omega
  simp only [Option.bind_some, e]
  rw [List.getLast_eq_getElem]
  have : xs.length - 1 < xs.length := by omega
  simp [this]
theorem ev_ix [Inhabited α] {xs : List α} {i : Int} [m : Mono r] (ha : EvF X a σ F M (rdR X.K M r) xs) (hb : EvF X b σ F M iR i) (h : -(xs.length : Int) ≤ i ∧ i < xs.length) (hs : PlainIx b := by exact fun _ _ => rfl) :
    EvF X (.Subscript a b pos) σ F M r (gI xs i) :=
  fun F1 H1 s w Q q => we_of (pe_ix ix_list (pe_w a) (pe_w b) hs) (ha F1 H1 s w _ fun F2 H2 v s2 w2 ⟨l, vs, e, hl, h2⟩ => hb F2 H2 (s.trans s2) w2 _ fun F3 H3 u s3 w3 hu => by
    obtain ⟨z, hz, hr⟩ := h2.at h
    exact ⟨l, vs, i, z, e, hu, w3.sq (hl.imp (fun y => Same.sql s3 y) id), hz, q F3 H3 z (s2.trans s3) w3 (m.mono s3 hr)⟩)
theorem ev_t2_0 {x : α × β} {j} {q1} [m : Mono r] (ha : EvF X a σ F M (t2R r s) x) (hs : PlainIx (.Constant (.int 0) j q1) := by exact fun _ _ => rfl) : EvF X (.Subscript a (.Constant (.int 0) j q1) pos) σ F M r x.1 :=
  fun F1 H1 s w Q q => we_of (pe_ix ix_tup (pe_w a) pe_int hs) (ha F1 H1 s w _ fun F2 H2 v s2 w2 ⟨l, u, z, e, hl, h1, h2⟩ => ⟨l, _, 0, u, e, rfl, SqT.of (w2.f _ _ hl), rfl, q F2 H2 _ s2 w2 h1⟩)
theorem ev_t2_1 {x : α × β} {j} {q1} [m : Mono s] (ha : EvF X a σ F M (t2R r s) x) (hs : PlainIx (.Constant (.int 1) j q1) := by exact fun _ _ => rfl) : EvF X (.Subscript a (.Constant (.int 1) j q1) pos) σ F M s x.2 :=
  fun F1 H1 s w Q q => we_of (pe_ix ix_tup (pe_w a) pe_int hs) (ha F1 H1 s w _ fun F2 H2 v s2 w2 ⟨l, u, z, e, hl, h1, h2⟩ => ⟨l, _, 1, z, e, rfl, SqT.of (w2.f _ _ hl), rfl, q F2 H2 _ s2 w2 h2⟩)
theorem ev_t3_0 {x : α × β × γ} {j} {q1} (ha : EvF X a σ F M (t3R r s t) x) (hs : PlainIx (.Constant (.int 0) j q1) := by exact fun _ _ => rfl) : EvF X (.Subscript a (.Constant (.int 0) j q1) pos) σ F M r x.1 :=
  fun F1 H1 s w Q q => we_of (pe_ix ix_tup (pe_w a) pe_int hs) (ha F1 H1 s w _ fun F2 H2 v s2 w2 ⟨l, u, z, y, e, hl, h1, h2, h3⟩ => ⟨l, _, 0, u, e, rfl, SqT.of (w2.f _ _ hl), rfl, q F2 H2 _ s2 w2 h1⟩)
theorem ev_t3_1 {x : α × β × γ} {j} {q1} (ha : EvF X a σ F M (t3R r s t) x) (hs : PlainIx (.Constant (.int 1) j q1) := by exact fun _ _ => rfl) : EvF X (.Subscript a (.Constant (.int 1) j q1) pos) σ F M s x.2.1 :=
  fun F1 H1 s w Q q => we_of (pe_ix ix_tup (pe_w a) pe_int hs) (ha F1 H1 s w _ fun F2 H2 v s2 w2 ⟨l, u, z, y, e, hl, h1, h2, h3⟩ => ⟨l, _, 1, z, e, rfl, SqT.of (w2.f _ _ hl), rfl, q F2 H2 _ s2 w2 h2⟩)
theorem ev_t3_2 {x : α × β × γ} {j} {q1} (ha : EvF X a σ F M (t3R r s t) x) (hs : PlainIx (.Constant (.int 2) j q1) := by exact fun _ _ => rfl) : EvF X (.Subscript a (.Constant (.int 2) j q1) pos) σ F M t x.2.2 :=
  fun F1 H1 s w Q q => we_of (pe_ix ix_tup (pe_w a) pe_int hs) (ha F1 H1 s w _ fun F2 H2 v s2 w2 ⟨l, u, z, y, e, hl, h1, h2, h3⟩ => ⟨l, _, 2, y, e, rfl, SqT.of (w2.f _ _ hl), rfl, q F2 H2 _ s2 w2 h3⟩)
/-! slices: xs[lo:hi] -/
def cutL (xs : List α) (lo hi : Option Int) : List α := (xs.drop (HT.sIx xs.length 0 lo)).take (HT.sIx xs.length xs.length hi - HT.sIx xs.length 0 lo)
theorem cutL_le (xs : List α) (lo hi : Option Int) : (cutL xs lo hi).length ≤ xs.length := by
  unfold cutL
  rw [List.length_take, List.length_drop]
  omega
theorem cutL_mem {xs : List α} {lo hi : Option Int} {x : α} (h : x ∈ cutL xs lo hi) : x ∈ xs := List.mem_of_mem_drop (List.mem_of_mem_take h)
theorem lc_len {xs : List α} {q : α → Bool} {f : α → β} : ((xs.filter q).map f).length ≤ xs.length := by
  rw [List.length_map]
  exact List.length_filter_le _ _
def EvO (X : Cx) (e : Option Expr) (σ : L2.St) (F M : Hp) (o : Option Int) : Prop := match e, o with
  | none, none => True
  | some e, some i => EvF X e σ F M iR i
  | _, _ => False
def WO (X : Cx) (e : Option Expr) : TO := match e with
  | none => tNoPart
  | some e => tPart (WE X e)
theorem po_w (e : Option Expr) : PO X e (WO X e) := by
  cases e with
  | none => exact po_none
  | some e => exact po_some (pe_w e)
theorem EvO.run {e : Option Expr} {o : Option Int} (h : EvO X e σ F M o) {F1 H1 : Hp} (s : Same F F1) (w : Own F1 M H1) (Q : Option Int → Hp → Prop) (q : ∀ F2 H2, Same F1 F2 → Own F2 M H2 → Q o H2) : WO X e σ H1 Q := by
  cases e with
  | none => cases o with
    | none => exact q F1 H1 (Same.refl _) w
    | some i => exact h.elim
  | some e => cases o with
    | none => exact h.elim
    | some i => exact h F1 H1 s w _ fun F2 H2 v s2 w2 hv => ⟨i, hv, q F2 H2 s2 w2⟩
theorem en_slice {xs : List α} {lo hi : Option Expr} {l u : Option Int} [m : Mono r] (ha : EvF X a σ F M (rdR X.K M r) xs) (hl : EvO X lo σ F M l) (hu : EvO X hi σ F M u) : EvN X (.Subscript a (.Slice lo hi none p2) pos) σ F M r (cutL xs l u) :=
  fun F1 H1 s w Q q => we_of (pe_slice sl_list (pe_w a) (po_w lo) (po_w hi)) (ha F1 H1 s w _ fun F2 H2 v s2 w2 ⟨k, vs, e, hk, h2⟩ => hl.run (s.trans s2) w2 _ fun F3 H3 s3 w3 => hu.run ((s.trans s2).trans s3) w3 _ fun F4 H4 s4 w4 =>
    ⟨k, vs, e, w4.sq (hk.imp (fun y => Same.sql (s3.trans s4) y) id), fun p hp => by
      refine q F4 _ p _ ((s2.trans s3).trans s4) ⟨same_in w4.f (w4.noF hp), same_in w4.m (w4.noM hp), w4.d⟩ (w4.noF hp) (w4.noM hp) upd_same ?_
      unfold cutV cutL
      rw [h2.len]
      exact ((h2.up (s3.trans s4)).drop _).take _⟩)
end

/-! ### calls of one's own defs -/
/-- the arguments of a call, one after the other -/
abbrev AR (α : Type) := Hp → List V → α → Prop
def an : AR Unit := fun _ vs _ => vs = []
def ac {α β : Type} (r : Rep α) (A : AR β) : AR (α × β) := fun F vs x => ∃ v us, vs = v :: us ∧ r F v x.1 ∧ A F us x.2
/-- a def's promise: what it gives stands for good -/
def FSp {α : Type} (A : AR α) (pre : α → Prop) (R : α → Hp → V → Prop) : Sp := fun vs H Q _ => ∃ F M x, A F vs x ∧ pre x ∧ Own F M H ∧ ∀ F2 H2 v, Same F F2 → Own F2 M H2 → R x F2 v → Q v H2
/-- .. it gives a new list -/
def FSpN {α β : Type} (A : AR α) (pre : α → Prop) (r : Rep β) (R : α → List β → Prop) : Sp := fun vs H Q _ => ∃ F M x, A F vs x ∧ pre x ∧ Own F M H ∧
  ∀ F2 H2 l vs ys, Same F F2 → Own F2 M H2 → F2 l = none → M l = none → H2 l = some (.lst vs) → A2 (r F2) vs ys → R x ys → Q (.ref l) H2
section
variable {X : Cx} {σ : L2.St} {F M : Hp} {a b c e : Expr} {es : List Expr} {pos p p2 : Pos} {α β γ δ : Type} {r : Rep α} {s : Rep β} {n : Str} {k : Nat} {f : Addr} {fd : FuncData} {ps : List Str}
theorem ev_call {A : AR α} {pre : α → Prop} {R : α → Hp → V → Prop} {x : α} (G : FnOk X.prog X.w X.K X.mg X.base CX0 k f fd ps (FSp A pre R)) (hr : Room k X.A) (hm : X.mg n = some (.ref f)) (hk : PySem.W.keepIn X.K (.ref f) = true) (hb : Binds X.K fd ps [])
    (ha : EvA X (e :: es) σ F M fun F vs => A F vs x) (hp : pre x) (hg : Gl X n := by rfl) (hdb : (n == ("__debug__" : Str)) = false := by decide) (he : starEach (e :: es) X.env = (false, eval e X.env) :: starEach es X.env := by rfl) (hpl : (backTo pos (starEach es X.env)).any (·.1) = false := by rfl) :
    Ev X (.Call (.Name n p) (e :: es) [] pos) σ F M (R x) :=
  fun F1 H1 s w Q q => we_of (pe_call G hr hg hm hk hb .nil pass0 (pa_w (e :: es)) hdb he hpl) (ha F1 H1 s w _ fun F2 H2 vs s2 w2 hv => by
    show FSp A pre R (vs ++ []) H2 Q E0
    rw [List.append_nil]
    exact ⟨F2, M, x, hv, hp, w2, fun F3 H3 v s3 w3 h => q F3 H3 v (s2.trans s3) w3 h⟩)
/-- what is known of the new list a call gives -/
def EvNP (X : Cx) (e : Expr) (σ : L2.St) (F M : Hp) {β : Type} (r : Rep β) (P : List β → Prop) : Prop :=
  ∀ F1 H1, Same F F1 → Own F1 M H1 → ∀ Q : VK, (∀ F2 H2 l vs ys, Same F1 F2 → Own F2 M H2 → F2 l = none → M l = none → H2 l = some (.lst vs) → A2 (r F2) vs ys → P ys → Q (.ref l) H2) → WE X e σ H1 Q
theorem ev_callN {A : AR α} {pre : α → Prop} {R : α → List β → Prop} {x : α} (G : FnOk X.prog X.w X.K X.mg X.base CX0 k f fd ps (FSpN A pre s R)) (hr : Room k X.A) (hm : X.mg n = some (.ref f)) (hk : PySem.W.keepIn X.K (.ref f) = true) (hb : Binds X.K fd ps [])
    (ha : EvA X (e :: es) σ F M fun F vs => A F vs x) (hp : pre x) (hg : Gl X n := by rfl) (hdb : (n == ("__debug__" : Str)) = false := by decide) (he : starEach (e :: es) X.env = (false, eval e X.env) :: starEach es X.env := by rfl) (hpl : (backTo pos (starEach es X.env)).any (·.1) = false := by rfl) :
    EvNP X (.Call (.Name n p) (e :: es) [] pos) σ F M s (R x) :=
  fun F1 H1 s1 w Q q => we_of (pe_call G hr hg hm hk hb .nil pass0 (pa_w (e :: es)) hdb he hpl) (ha F1 H1 s1 w _ fun F2 H2 vs s2 w2 hv => by
    show FSpN A pre s R (vs ++ []) H2 Q E0
    rw [List.append_nil]
    exact ⟨F2, M, x, hv, hp, w2, fun F3 H3 l vs ys s3 w3 h1 h2 h3 h4 h5 => q F3 H3 l vs ys (s2.trans s3) w3 h1 h2 h3 h4 h5⟩)
theorem EvNP.fz {P : List α → Prop} [m : Mono r] (h : EvNP X e σ F M r P) : Ev X e σ F M fun F v => ∃ xs, lR r F v xs ∧ P xs := fun F1 H1 s w Q q => h F1 H1 s w Q fun F2 H2 a vs ys s2 w2 n1 n2 hh h2 hP =>
  q _ H2 _ (s2.trans (same_new n1)) (w2.keepF n1 n2 hh) ⟨ys, ⟨a, vs, rfl, upd_same, h2.up (same_new n1)⟩, hP⟩
theorem EvNP.eq {P : List α → Prop} {xs : List α} (h : EvNP X e σ F M r P) (q : ∀ ys, P ys → ys = xs) : EvN X e σ F M r xs := fun F1 H1 s w Q k => h F1 H1 s w Q fun F2 H2 a vs ys s2 w2 n1 n2 hh h2 hP => by
  cases q ys hP
  exact k F2 H2 a vs s2 w2 n1 n2 hh h2
end
section
variable {P : Program} {w : World} {K : PySem.W.Frag} {mg : Str → Option Value} {base : Heap}
/-- a def holds its promise: its body from its arguments on -/
theorem ok_def {x qual : Str} {st : Stmt} {f : Addr} {fd : FuncData} {N ps : List Str} {k : Nat} {sp : Sp} (F : Fun K x qual st f fd) (S : FnScope N ps (defScope st)) (len : ∀ vs H Q E, sp vs H Q E → vs.length = ps.length)
    (hbody : ∀ (cdv : Value) (A : Around) (outer : List Env) (s : Shared) (H : Hp) (vs : List V) (Q : VK) (E : XK), Room k (A.deeper (envOfC qual (defScope st) s.heap.objs.size f cdv)) → sp vs H Q E →
      WSs (cxOf CX0 P w K mg base N qual (defScope st) f cdv A outer s H E).nox (defBody st) { nx := fun _ H' => Q .non H', rt := Q } (start N vs) H) : FnOk P w K mg base CX0 (k + 1) f fd ps sp :=
  F.ok S len fun cdv A outer s H vs Q E hr h => ⟨_, pss_w _, hbody cdv A outer s H vs Q E hr h⟩
end
end Y

namespace Y
open PySem PySem.Spec PyProof.Rows L2
/-! ### == at any depth -/
/-- what is compared item by item -/
class DEq {α : Type} (r : Rep α) where
  toD : α → PyData
  dep : Nat
  dp : ∀ {K : PySem.W.Frag} {F : Hp} {v : V} {x : α}, r F v x → Dp K F v (toD x)
  lay : ∀ {F : Hp} {v : V} {x : α}, r F v x → (toD x).canLay0 = true
  dpt : ∀ x : α, (toD x).depth ≤ dep
  eqv : ∀ x y : α, PyData.eqv (toD x) (toD y) = true ↔ x = y
theorem b_iff {b : Bool} {p : Prop} [Decidable p] (h : b = true ↔ p) : b = decide p := by
  cases b with
  | true => exact (decide_eq_true (h.mp rfl)).symm
  | false => exact (decide_eq_false fun q => Bool.false_ne_true (h.mpr q)).symm
mutual
theorem Dp.up {K : PySem.W.Frag} {F F' : Hp} (e : Same F F') : ∀ {v : V} {d : PyData}, Dp K F v d → Dp K F' v d
  | _, _, .non => .non
  | _, _, .bl b => .bl b
  | _, _, .int i => .int i
  | _, _, .str x => .str x
  | _, _, .lst h t => .lst (Same.sql e h) (DpAll.up e t)
  | _, _, .tup h t => .tup (Same.sqt e h) (DpAll.up e t)
theorem DpAll.up {K : PySem.W.Frag} {F F' : Hp} (e : Same F F') : ∀ {vs : List V} {ds : List PyData}, DpAll K F vs ds → DpAll K F' vs ds
  | _, _, .nil => .nil
  | _, _, .cons h t => .cons (Dp.up e h) (DpAll.up e t)
end
instance : DEq iR where
  toD := .int
  dep := 0
  dp := fun h => by cases h; exact .int _
  lay := fun _ => rfl
  dpt := fun _ => Nat.le_refl _
  eqv := fun x y => by simp [PyData.eqv]
instance : DEq bR where
  toD := .bool
  dep := 0
  dp := fun h => by cases h; exact .bl _
  lay := fun _ => rfl
  dpt := fun _ => Nat.le_refl _
  eqv := fun x y => by simp [PyData.eqv]
instance : DEq sR where
  toD := .str
  dep := 0
  dp := fun h => by cases h.1; exact .str _
  lay := fun h => h.2
  dpt := fun _ => Nat.le_refl _
  eqv := fun x y => by simp [PyData.eqv]
instance : DEq nR where
  toD := fun _ => .none
  dep := 0
  dp := fun h => by cases h; exact .non
  lay := fun _ => rfl
  dpt := fun _ => Nat.le_refl _
  eqv := fun x y => by simp [PyData.eqv]
theorem dpAll_of {α : Type} {r : Rep α} [d : DEq r] {K : PySem.W.Frag} {F : Hp} : ∀ {vs : List V} {xs : List α}, A2 (r F) vs xs → DpAll K F vs (xs.map d.toD)
  | _, _, .nil => .nil
  | _, _, .cons h t => .cons (d.dp h) (dpAll_of t)
theorem layAll_of {α : Type} {r : Rep α} [d : DEq r] {F : Hp} : ∀ {vs : List V} {xs : List α}, A2 (r F) vs xs → PyData.canLayAll0 (xs.map d.toD) = true
  | _, _, .nil => rfl
  | _, _, .cons h t => by
    show (PyData.canLay0 _ && PyData.canLayAll0 _) = true
    rw [d.lay h, layAll_of t]; rfl
theorem dptAll_of {α : Type} {r : Rep α} [d : DEq r] : ∀ xs : List α, PyData.depthAll (xs.map d.toD) ≤ d.dep
  | [] => Nat.zero_le _
  | x :: xs => by
    show max (PyData.depth _) (PyData.depthAll _) ≤ _
    exact Nat.max_le.mpr ⟨d.dpt x, dptAll_of xs⟩
theorem eqvAll_of {α : Type} {r : Rep α} [d : DEq r] : ∀ xs ys : List α, PyData.eqvAll (xs.map d.toD) (ys.map d.toD) = true ↔ xs = ys
  | [], [] => by simp [PyData.eqvAll]
  | [], _ :: _ => by simp [PyData.eqvAll]
  | _ :: _, [] => by simp [PyData.eqvAll]
  | x :: xs, y :: ys => by
    show ((PyData.eqv _ _ && PyData.eqvAll _ _) = true) ↔ _
    rw [Bool.and_eq_true, d.eqv, eqvAll_of xs ys, List.cons.injEq]
instance {α : Type} {r : Rep α} [d : DEq r] : DEq (lR r) where
  toD := fun xs => .list (xs.map d.toD)
  dep := d.dep + 1
  dp := fun ⟨a, vs, e, h1, h2⟩ => by subst e; exact .lst (SqL.of h1) (dpAll_of h2)
  lay := fun ⟨a, vs, e, h1, h2⟩ => layAll_of h2
  dpt := fun xs => Nat.add_le_add_right (dptAll_of xs) 1
  eqv := fun xs ys => eqvAll_of xs ys
instance {α β : Type} {r : Rep α} {s : Rep β} [d : DEq r] [e : DEq s] : DEq (t2R r s) where
  toD := fun x => .tuple [d.toD x.1, e.toD x.2]
  dep := max d.dep e.dep + 1
  dp := fun ⟨a, u, w, q, h1, h2, h3⟩ => by subst q; exact .tup (SqT.of h1) (.cons (d.dp h2) (.cons (e.dp h3) .nil))
  lay := fun ⟨a, u, w, q, h1, h2, h3⟩ => by
    show (PyData.canLay0 _ && (PyData.canLay0 _ && true)) = true
    rw [d.lay h2, e.lay h3]; rfl
  dpt := fun x => by
    show max (PyData.depth _) (max (PyData.depth _) 0) + 1 ≤ _
    have h1 := d.dpt x.1
    have h2 := e.dpt x.2
    omega
  eqv := fun x y => by
    show ((PyData.eqv _ _ && (PyData.eqv _ _ && true)) = true) ↔ _
    rw [Bool.and_eq_true, Bool.and_eq_true, d.eqv, e.eqv]
    cases x; cases y; simp
instance {α β γ : Type} {r : Rep α} {s : Rep β} {t : Rep γ} [d : DEq r] [e : DEq s] [f : DEq t] : DEq (t3R r s t) where
  toD := fun x => .tuple [d.toD x.1, e.toD x.2.1, f.toD x.2.2]
  dep := max d.dep (max e.dep f.dep) + 1
  dp := fun ⟨a, u, w, z, q, h1, h2, h3, h4⟩ => by subst q; exact .tup (SqT.of h1) (.cons (d.dp h2) (.cons (e.dp h3) (.cons (f.dp h4) .nil)))
  lay := fun ⟨a, u, w, z, q, h1, h2, h3, h4⟩ => by
    show (PyData.canLay0 _ && (PyData.canLay0 _ && (PyData.canLay0 _ && true))) = true
    rw [d.lay h2, e.lay h3, f.lay h4]; rfl
  dpt := fun x => by
    show max (PyData.depth _) (max (PyData.depth _) (max (PyData.depth _) 0)) + 1 ≤ _
    have h1 := d.dpt x.1
    have h2 := e.dpt x.2.1
    have h3 := f.dpt x.2.2
    omega
  eqv := fun x y => by
    show ((PyData.eqv _ _ && (PyData.eqv _ _ && (PyData.eqv _ _ && true))) = true) ↔ _
    rw [Bool.and_eq_true, Bool.and_eq_true, Bool.and_eq_true, d.eqv, e.eqv, f.eqv]
    obtain ⟨x1, x2, x3⟩ := x
    obtain ⟨y1, y2, y3⟩ := y
    simp
section
variable {X : Cx} {σ : L2.St} {F M : Hp} {a b c e : Expr} {pos p p2 : Pos} {α β γ δ : Type} {r : Rep α} {s : Rep β} {t : Rep γ} {n : Str}
/-- a list to be read, one that is no written one of the module -/
def rtR (M : Hp) {α : Type} (r : Rep α) : Rep (List α) := fun F v xs => ∃ a vs, v = .ref a ∧ (F a = some (.lst vs) ∨ M a = some (.lst vs)) ∧ A2 (r F) vs xs
instance {M : Hp} {α : Type} {r : Rep α} [m : Mono r] : Mono (rtR M r) := ⟨fun e ⟨a, vs, h1, h2, h3⟩ => ⟨a, vs, h1, h2.imp (fun q => e _ _ q) id, h3.up e⟩⟩
theorem Ev.rt {xs : List α} (h : EvF X e σ F M (lR r) xs) : EvF X e σ F M (rtR M r) xs := h.imp fun _ _ ⟨a, vs, h1, h2, h3⟩ => ⟨a, vs, h1, .inl h2, h3⟩
theorem Ev.td {xs : List α} (h : EvF X e σ F M (rtR M r) xs) : EvF X e σ F M (rdR X.K M r) xs := h.imp fun _ _ ⟨a, vs, h1, h2, h3⟩ => ⟨a, vs, h1, h2.imp SqL.of id, h3⟩
theorem ev_varT (i : Nat) {xs : List α} {l : Addr} {vs : List V} {n : Str} [m : Mono r] (hs : σ[i]? = some (some (.ref l))) (hM : M l = some (.lst vs)) (hr : A2 (r F) vs xs) (hN : X.N[i]? = some n := by rfl)
    (hv : Vis X.env.scope n := by first | exact Or.inl rfl | exact Or.inr (Or.inl rfl) | exact Or.inr (Or.inr rfl)) (hd : (n == ("__debug__" : Str)) = false := by decide) (hcd : (n == ("__classdict__" : Str)) = false := by decide) :
    EvF X (.Name n pos) σ F M (rtR M r) xs := fun F1 H1 s w Q q => we_of (pe_var hN hv hd hcd) ⟨_, hs, q F1 H1 _ (Same.refl _) w ⟨l, vs, rfl, .inr hM, hr.up s⟩⟩
theorem shaped_of {d : PyData} (h1 : d.canLay0 = true) (h2 : d.depth ≤ 64) : SeqAt.shaped d = true := by
  show (d.canLay0 && decide (d.depth ≤ 64)) = true
  rw [h1, decide_eq_true h2]; rfl
theorem bx_eqD [d : DEq r] [m : Mono r] [DecidableEq α] {x y : α} (hu : X.A.units + 64 < cLine) (ha : EvF X a σ F M r x) (hb : EvF X b σ F M r y) (hdep : d.dep ≤ 64 := by decide) : Bx X (.Compare a [.Eq] [b] pos) σ F M (decide (x = y)) :=
  bx_c (ec_R (op_eqD hu) ha hb (fun _ _ _ e h => m.mono e h) fun F1 H1 v u _ w hv hu Q q =>
    ⟨d.toD x, d.toD y, Dp.up w.f (d.dp hv), Dp.up w.f (d.dp hu), shaped_of (d.lay hv) (Nat.le_trans (d.dpt x) hdep), shaped_of (d.lay hu) (Nat.le_trans (d.dpt y) hdep), by rw [b_iff (d.eqv x y)]; exact q⟩)
theorem bx_neD [d : DEq r] [m : Mono r] [DecidableEq α] {x y : α} (hu : X.A.units + 64 < cLine) (ha : EvF X a σ F M r x) (hb : EvF X b σ F M r y) (hdep : d.dep ≤ 64 := by decide) : Bx X (.Compare a [.NotEq] [b] pos) σ F M (!decide (x = y)) :=
  bx_c (ec_R (op_neD hu) ha hb (fun _ _ _ e h => m.mono e h) fun F1 H1 v u _ w hv hu Q q =>
    ⟨d.toD x, d.toD y, Dp.up w.f (d.dp hv), Dp.up w.f (d.dp hu), shaped_of (d.lay hv) (Nat.le_trans (d.dpt x) hdep), shaped_of (d.lay hu) (Nat.le_trans (d.dpt y) hdep), by rw [b_iff (d.eqv x y)]; exact q⟩)
/-- lists, one's own among them -/
theorem rt_dp [d : DEq r] {K : PySem.W.Frag} {H : Hp} {v : V} {xs : List α} (w : Own F M H) (h : rtR M r F v xs) : Dp K H v (.list (xs.map d.toD)) ∧ PyData.canLay0 (.list (xs.map d.toD)) = true := by
  obtain ⟨a, vs, rfl, h1, h2⟩ := h
  refine ⟨.lst (h1.elim (fun q => SqL.of (w.f _ _ q)) fun q => SqL.of (w.m _ _ q)) (DpAll.up w.f (dpAll_of h2)), layAll_of h2⟩
theorem bx_eqT [d : DEq r] [m : Mono r] [DecidableEq α] {x y : List α} (hu : X.A.units + 64 < cLine) (ha : EvF X a σ F M (rtR M r) x) (hb : EvF X b σ F M (rtR M r) y) (hdep : d.dep ≤ 63 := by decide) : Bx X (.Compare a [.Eq] [b] pos) σ F M (decide (x = y)) :=
  bx_c (ec_R (op_eqD hu) ha hb (fun _ _ _ e h => Mono.mono e h) fun F1 H1 v u _ w hv hu Q q => by
    obtain ⟨p1, l1⟩ := rt_dp (K := X.K) w hv
    obtain ⟨p2, l2⟩ := rt_dp (K := X.K) w hu
    refine ⟨_, _, p1, p2, shaped_of l1 (Nat.le_trans (Nat.add_le_add_right (dptAll_of x) 1) (Nat.add_le_add_right hdep 1)), shaped_of l2 (Nat.le_trans (Nat.add_le_add_right (dptAll_of y) 1) (Nat.add_le_add_right hdep 1)), ?_⟩
    rw [show PyData.eqv (.list (x.map d.toD)) (.list (y.map d.toD)) = decide (x = y) from b_iff (eqvAll_of x y)]
    exact q)
theorem bx_neT [d : DEq r] [m : Mono r] [DecidableEq α] {x y : List α} (hu : X.A.units + 64 < cLine) (ha : EvF X a σ F M (rtR M r) x) (hb : EvF X b σ F M (rtR M r) y) (hdep : d.dep ≤ 63 := by decide) : Bx X (.Compare a [.NotEq] [b] pos) σ F M (!decide (x = y)) :=
  bx_c (ec_R (op_neD hu) ha hb (fun _ _ _ e h => Mono.mono e h) fun F1 H1 v u _ w hv hu Q q => by
    obtain ⟨p1, l1⟩ := rt_dp (K := X.K) w hv
    obtain ⟨p2, l2⟩ := rt_dp (K := X.K) w hu
    refine ⟨_, _, p1, p2, shaped_of l1 (Nat.le_trans (Nat.add_le_add_right (dptAll_of x) 1) (Nat.add_le_add_right hdep 1)), shaped_of l2 (Nat.le_trans (Nat.add_le_add_right (dptAll_of y) 1) (Nat.add_le_add_right hdep 1)), ?_⟩
    rw [show PyData.eqv (.list (x.map d.toD)) (.list (y.map d.toD)) = decide (x = y) from b_iff (eqvAll_of x y)]
    exact q)

/-! ### in, not in: a list of ints -/
theorem flat_ints : ∀ xs : List Int, (xs.map V.int).all flatV = true
  | [] => rfl
  | x :: xs => by rw [List.map_cons, List.all_cons, flat_ints xs]; rfl
theorem inV_ints (i : Int) : ∀ xs : List Int, inV (.int i) (xs.map V.int) = decide (i ∈ xs)
  | [] => by simp [inV]
  | x :: xs => by
    have ih := inV_ints i xs
    unfold inV at ih ⊢
    rw [List.map_cons, List.any_cons, ih]
    show ((x == i) || decide (i ∈ xs)) = _
    by_cases h : x = i
    · subst h; simp
    · have : ¬ i = x := fun q => h q.symm
      simp [h, this]
theorem bx_inL {i : Int} {xs : List Int} (ha : EvF X a σ F M iR i) (hb : EvF X b σ F M (rdR X.K M iR) xs) (hm : behindInMarks .In b = false := by rfl) : Bx X (.Compare a [.In] [b] pos) σ F M (decide (i ∈ xs)) :=
  bx_c (ec_R op_in_seq ha hb (fun _ _ _ _ h => h) fun F1 H1 v u _ w hv ⟨l, vs, e, hl, h2⟩ Q q => by
    cases (show v = V.int i from hv)
    refine ⟨l, vs, e, .inl (w.sq hl), rfl, ?_, ?_⟩
    · rw [iR_map h2]; exact flat_ints xs
    · rw [iR_map h2, inV_ints]; exact q) hm
theorem bx_niL {i : Int} {xs : List Int} (ha : EvF X a σ F M iR i) (hb : EvF X b σ F M (rdR X.K M iR) xs) (hm : behindInMarks .NotIn b = false := by rfl) : Bx X (.Compare a [.NotIn] [b] pos) σ F M (!decide (i ∈ xs)) :=
  bx_c (ec_R op_notIn_seq ha hb (fun _ _ _ _ h => h) fun F1 H1 v u _ w hv ⟨l, vs, e, hl, h2⟩ Q q => by
    cases (show v = V.int i from hv)
    refine ⟨l, vs, e, .inl (w.sq hl), rfl, ?_, ?_⟩
    · rw [iR_map h2]; exact flat_ints xs
    · rw [iR_map h2, inV_ints]; exact q) hm

/-! ### isinstance -/
class TyIs {α : Type} (r : Rep α) (T : outParam String) : Prop where
  ty : ∀ {K : PySem.W.Frag} {F : Hp} {v : V} {x : α}, r F v x → TyX K F v (.type T)
instance : TyIs iR "int" := ⟨fun h => by cases h; exact .base (.int _)⟩
instance : TyIs bR "bool" := ⟨fun h => by cases h; exact .base (.bl _)⟩
instance : TyIs sR "str" := ⟨fun h => by cases h.1; exact .base (.str _)⟩
instance : TyIs nR "NoneType" := ⟨fun h => by cases h; exact .base .non⟩
instance {α : Type} {r : Rep α} : TyIs (lR r) "list" := ⟨fun ⟨a, vs, e, h, _⟩ => by subst e; exact .base (.lst h)⟩
instance {α β : Type} {r : Rep α} {s : Rep β} : TyIs (t2R r s) "tuple" := ⟨fun ⟨a, u, w, e, h, _⟩ => by subst e; exact .base (.tup h)⟩
instance {α β γ : Type} {r : Rep α} {s : Rep β} {t : Rep γ} : TyIs (t3R r s t) "tuple" := ⟨fun ⟨a, u, w, z, e, h, _⟩ => by subst e; exact .base (.tup h)⟩
theorem bx_isi {T' : Str} {S S' : String} {x : α} {k : Bool} [t : TyIs r S] [m : Mono r] {q2 : Pos} (hm : X.mg "isinstance" = none) (hT : X.mg T' = none) (hb : bootBuiltins T' = some (.type S')) (ha : EvF X a σ F M r x) (hk : kitB S S' = some k) (hg : Gl X "isinstance" := by rfl) (hgT : Gl X T' := by rfl)
    (hn : T' ≠ "__name__" := by decide) (hd : (T' == ("__debug__" : Str)) = false := by decide)
    (he : starEach [a, .Name T' q2] X.env = (false, eval a X.env) :: starEach [.Name T' q2] X.env := by rfl) (he2 : starEach [.Name T' q2] X.env = (false, eval (.Name T' q2) X.env) :: starEach [] X.env := by rfl) (hpl : (backTo pos (starEach [.Name T' q2] X.env)).any (·.1) = false := by rfl)
    (ht : ∀ whole, isTrue (.Call (.Name "isinstance" p) [a, .Name T' q2] [] pos) X.env whole = (do let v ← whole; standAt (Expr.Call (.Name "isinstance" p) [a, .Name T' q2] [] pos).pos; holding [v] (truthy v)) := by intro _; rfl) :
    Bx X (.Call (.Name "isinstance" p) [a, .Name T' q2] [] pos) σ F M k :=
  bx_val (fun F1 H1 s w Q q => we_of (pe_callB call_isi hg hm (by decide +kernel) (pa_cons (pe_w a) (pa_cons (pe_bltn (v := .ty S') hgT hT hb rfl hn hd) pa_nil he2) he) (he := he) (hpl := hpl)) (ha F1 H1 s w _ fun F2 H2 v s2 w2 hv =>
    ⟨v, .ty S', .type S, .type S', k, rfl, .ty S', t.ty (F := H2) (x := x) (m.mono w2.f hv), kit_ty hk, q F2 H2 _ s2 w2 rfl⟩)) ht
end
end Y

namespace Y
open PySem PySem.Spec PyProof.Rows L2
section
variable {F M H : Hp} {a b c p q l : Addr} {o o1 o2 o3 u : HO}
theorem upd_comm (h : p ≠ q) : upd (upd M p o) q u = upd (upd M q u) p o := by
  funext x
  by_cases h1 : x = p
  · subst h1; rw [upd_ne h, upd_same, upd_same]
  · by_cases h2 : x = q
    · subst h2; rw [upd_same, upd_ne h1, upd_same]
    · rw [upd_ne h2, upd_ne h1, upd_ne h1, upd_ne h2]
theorem upd_c2 (h : p ≠ q) : upd (upd (upd M p o) q u) p o1 = upd (upd M p o1) q u := by rw [upd_comm h, upd_upd, upd_comm h.symm]
theorem upd_c3 (h : p ≠ q) (h2 : p ≠ l) (h3 : q ≠ l) : upd (upd (upd (upd M p o) q u) l o2) p o1 = upd (upd (upd M p o1) q u) l o2 := by
  rw [← upd_comm h2, upd_c2 h]
theorem upd_comm3 (h : p ≠ q) (h2 : p ≠ l) : upd (upd (upd M p o) q u) l o2 = upd (upd (upd M q u) l o2) p o := by
  rw [upd_comm h, upd_comm h2]
theorem Own.cast {M' : Hp} (w : Own F M H) (e : M = M') : Own F M' H := e ▸ w
theorem Own.fz1 (w : Own F (upd M l o) H) (h : M l = none) : Own (upd F l o) M H := by
  have e := w.freeze (p := l) upd_same
  have d : del (upd M l o) l = M := by
    funext x
    by_cases h1 : x = l
    · subst h1; rw [del_same, h]
    · rw [del_ne h1, upd_ne h1]
  rw [d] at e; exact e
end
section
variable {X : Cx} {σ : L2.St} {F M H : Hp} {a b c e : Expr} {pos p p2 : Pos} {α β γ δ : Type} {r : Rep α} {s : Rep β} {t : Rep γ} {n : Str} {rest : List Stmt} {D : Ends}
theorem ev_ifF {x y : α} {k : Bool} (hc : Bx X c σ F M k) (h1 : k = true → EvF X a σ F M r x) (h2 : k = false → EvF X b σ F M r y) : EvF X (.IfExp c a b pos) σ F M r (if k = true then x else y) :=
  ev_if hc (fun h => by subst h; simpa using h1 rfl) (fun h => by subst h; simpa using h2 rfl)
theorem EvI.eq {tg it : Expr} {xs ys : List α} (h : EvI X tg it σ F M r xs) (q : xs = ys) : EvI X tg it σ F M r ys := q ▸ h
theorem en_cat {xs ys : List α} [m : Mono r] (ha : EvF X a σ F M (rtR M r) xs) (hb : EvF X b σ F M (rtR M r) ys) (hl : xs.length + ys.length ≤ 1000000) : EvN X (.BinOp a .Add b pos) σ F M r (xs ++ ys) :=
  fun F1 H1 s w Q q => we_of (pe_op op_cat (pe_w a) (pe_w b)) (ha F1 H1 s w _ fun F2 H2 v s2 w2 ⟨l, vs, e, hl1, h2⟩ => hb F2 H2 (s.trans s2) w2 _ fun F3 H3 u s3 w3 ⟨l', vs', e', hl', h2'⟩ =>
    ⟨l, l', vs, vs', e, e', hl1.elim (fun z => w3.f _ _ (s3 _ _ z)) (w3.m _ _), hl'.elim (w3.f _ _) (w3.m _ _), small_of (by rw [h2.len, h2'.len]; exact hl), fun p hp =>
      q F3 _ p _ (s2.trans s3) ⟨same_in w3.f (w3.noF hp), same_in w3.m (w3.noM hp), w3.d⟩ (w3.noF hp) (w3.noM hp) upd_same ((h2.up s3).app h2')⟩)
theorem bx_chain {op op' : CmpOp} {g1 g2 : Int → Int → Bool} {i j k : Int} (ho : OpR X (compareOp op) (rI0 fun i j => .bl (g1 i j))) (ho' : OpR X (compareOp op') (rI0 fun i j => .bl (g2 i j))) (ha : EvF X a σ F M iR i) (hb : EvF X b σ F M iR j) (hc : EvF X c σ F M iR k)
    (hm : lastMarks [op, op'] [b, c] = false := by with_unfolding_all rfl) : Bx X (.Compare a [op, op'] [b, c] pos) σ F M (g1 i j && g2 j k) := by
  refine ⟨fun F1 H1 s w Q q => we_of (pe_chain ho ho' (pe_w a) (pe_w b) (pe_w c) hm) (ha F1 H1 s w _ fun F2 H2 v s2 w2 hv => hb F2 H2 (s.trans s2) w2 _ fun F3 H3 u s3 w3 hu => ⟨i, j, hv, hu, g1 i j, rfl, ?_⟩), fun F1 H1 s w Q q => wt_of (pt_chain ho ho' (pe_w a) (pe_w b) (pe_w c) hm) (ha F1 H1 s w _ fun F2 H2 v s2 w2 hv => hb F2 H2 (s.trans s2) w2 _ fun F3 H3 u s3 w3 hu => ⟨i, j, hv, hu, g1 i j, rfl, ?_⟩)⟩
  · cases hk : g1 i j with
    | false =>
      rw [if_neg Bool.false_ne_true]
      exact q F3 H3 _ (s2.trans s3) w3 (by rw [hk]; rfl)
    | true =>
      rw [if_pos rfl]
      exact hc F3 H3 ((s.trans s2).trans s3) w3 _ fun F4 H4 z s4 w4 hz => ⟨j, k, hu, hz, q F4 H4 _ ((s2.trans s3).trans s4) w4 (by rw [hk]; rfl)⟩
  · cases hk : g1 i j with
    | false =>
      rw [if_neg Bool.false_ne_true]
      exact ⟨_, rfl, by have := q F3 H3 (s2.trans s3) w3; rw [hk] at this; exact this⟩
    | true =>
      rw [if_pos rfl]
      exact hc F3 H3 ((s.trans s2).trans s3) w3 _ fun F4 H4 z s4 w4 hz => ⟨j, k, hu, hz, _, rfl, by have := q F4 H4 ((s2.trans s3).trans s4) w4; rw [hk] at this; exact this⟩
theorem ss_doc {x j} {q1 q2 : Pos} (k : WSs X rest D σ H) : WSs X (.Expr (.Constant (.str x) j q1) q2 :: rest) D σ H := wss_cons (ws_of ps_doc k)
theorem ss_pass (k : WSs X rest D σ H) : WSs X (.Pass pos :: rest) D σ H := wss_cons (ws_of ps_pass k)
theorem ss_continue (k : D.ct σ H) : WSs X (.Continue pos :: rest) D σ H := wss_cons (ws_of ps_continue k)
theorem ss_break (k : D.bk σ H) : WSs X (.Break pos :: rest) D σ H := wss_cons (ws_of ps_break k)
theorem ss_setB (i : Nat) {x : Bool} (he : EvF X e σ F M bR x) (w : Own F M H) (k : ∀ H2, Own F M H2 → WSs X rest D (σ.set i (some (.bl x))) H2)
    (hN : X.N.Nodup) (hi : X.N[i]? = some n := by rfl) (hx : Loc X.env.scope n := by first | exact Or.inl rfl | exact Or.inr rfl) (hs : swapsWith e (some (.Name n p)) pos.line X.env = pure false := by rfl) (hf : X.fn n = true ∨ X.env.scope.names.lookup n = some .local := by first | exact .inl rfl | exact .inr rfl) :
    WSs X (.Assign [.Name n p] e pos :: rest) D σ H :=
  ss_set i he w (fun F2 H2 v s2 w2 hv => by cases (show v = V.bl x from hv); exact k H2 (w2.lessF s2)) hN hi hx hs hf
theorem ss_setNP (i : Nat) {P : List α → Prop} (he : EvNP X e σ F M r P) (w : Own F M H) (k : ∀ F2 H2 l vs xs, Same F F2 → M l = none → Own F2 (upd M l (.lst vs)) H2 → A2 (r F2) vs xs → P xs → WSs X rest D (σ.set i (some (.ref l))) H2)
    (hN : X.N.Nodup) (hi : X.N[i]? = some n := by rfl) (hx : Loc X.env.scope n := by first | exact Or.inl rfl | exact Or.inr rfl) (hs : swapsWith e (some (.Name n p)) pos.line X.env = pure false := by rfl) (hf : X.fn n = true ∨ X.env.scope.names.lookup n = some .local := by first | exact .inl rfl | exact .inr rfl) :
    WSs X (.Assign [.Name n p] e pos :: rest) D σ H :=
  wss_cons (ws_of (ps_set hN hi hx (pe_w e) hs hf) (he F H (Same.refl _) w _ fun F2 H2 l vs xs s2 w2 n1 n2 hh h2 hp => k F2 H2 l vs xs s2 n2 (w2.keepM n1 n2 hh) h2 hp))
theorem ss_retN {xs : List α} (he : EvN X e σ F M r xs) (w : Own F M H) (k : ∀ F2 H2 l vs, Same F F2 → Own F2 M H2 → F2 l = none → M l = none → H2 l = some (.lst vs) → A2 (r F2) vs xs → D.rt (.ref l) H2) : WSs X (.Return (some e) pos :: rest) D σ H :=
  wss_cons (ws_of (ps_ret (pe_w e)) (he F H (Same.refl _) w _ fun F2 H2 l vs s2 w2 n1 n2 hh h2 => k F2 H2 l vs s2 w2 n1 n2 hh h2))
theorem ss_retNP {P : List α → Prop} (he : EvNP X e σ F M r P) (w : Own F M H) (k : ∀ F2 H2 l vs xs, Same F F2 → Own F2 M H2 → F2 l = none → M l = none → H2 l = some (.lst vs) → A2 (r F2) vs xs → P xs → D.rt (.ref l) H2) : WSs X (.Return (some e) pos :: rest) D σ H :=
  wss_cons (ws_of (ps_ret (pe_w e)) (he F H (Same.refl _) w _ fun F2 H2 l vs xs s2 w2 n1 n2 hh h2 hp => k F2 H2 l vs xs s2 w2 n1 n2 hh h2 hp))
theorem ss_retM (i : Nat) {l : Addr} (hs : σ[i]? = some (some (.ref l))) (k : D.rt (.ref l) H) (hN : X.N[i]? = some n := by rfl)
    (hv : Vis X.env.scope n := by first | exact Or.inl rfl | exact Or.inr (Or.inl rfl) | exact Or.inr (Or.inr rfl)) (hd : (n == ("__debug__" : Str)) = false := by decide) (hcd : (n == ("__classdict__" : Str)) = false := by decide) :
    WSs X (.Return (some (.Name n p)) pos :: rest) D σ H := wss_cons (ws_of (ps_ret (pe_var hN hv hd hcd)) ⟨_, hs, k⟩)
/-- x += e, x -= e -/
theorem ss_augA (i : Nat) {x y z : Int} (hσ : σ[i]? = some (some (.int x))) (he : EvF X e σ F M iR y) (w : Own F M H) (hz : x + y = z) (k : ∀ H2, Own F M H2 → WSs X rest D (σ.set i (some (.int z))) H2)
    (hN : X.N.Nodup) (hi : X.N[i]? = some n := by rfl) (hx : Loc X.env.scope n := by first | exact Or.inl rfl | exact Or.inr rfl) (hf : X.fn n = true ∨ X.env.scope.names.lookup n = some .local := by first | exact .inl rfl | exact .inr rfl) : WSs X (.AugAssign (.Name n p) .Add e pos :: rest) D σ H :=
  wss_cons (ws_of (ps_aug hN hi hx (pe_w e) ip_add hf) ⟨_, hσ, he F H (Same.refl _) w _ fun F2 H2 v s2 w2 hv => ⟨x, y, rfl, hv, by show (thn X rest D).nx (σ.set i (some (.int (x + y)))) H2; rw [hz]; exact k H2 (w2.lessF s2)⟩⟩)
theorem ss_augS (i : Nat) {x y z : Int} (hσ : σ[i]? = some (some (.int x))) (he : EvF X e σ F M iR y) (w : Own F M H) (hz : x - y = z) (k : ∀ H2, Own F M H2 → WSs X rest D (σ.set i (some (.int z))) H2)
    (hN : X.N.Nodup) (hi : X.N[i]? = some n := by rfl) (hx : Loc X.env.scope n := by first | exact Or.inl rfl | exact Or.inr rfl) (hf : X.fn n = true ∨ X.env.scope.names.lookup n = some .local := by first | exact .inl rfl | exact .inr rfl) : WSs X (.AugAssign (.Name n p) .Sub e pos :: rest) D σ H :=
  wss_cons (ws_of (ps_aug hN hi hx (pe_w e) ip_sub hf) ⟨_, hσ, he F H (Same.refl _) w _ fun F2 H2 v s2 w2 hv => ⟨x, y, rfl, hv, by show (thn X rest D).nx (σ.set i (some (.int (x - y)))) H2; rw [hz]; exact k H2 (w2.lessF s2)⟩⟩)
theorem ev_min2 {i j : Int} (hc : X.calm = true) (hm : X.mg "min" = none) (ha : EvF X a σ F M iR i) (hb : EvF X b σ F M iR j) (hg : Gl X "min" := by rfl) (he : starEach [a, b] X.env = (false, eval a X.env) :: starEach [b] X.env := by rfl) (he2 : starEach [b] X.env = (false, eval b X.env) :: starEach [] X.env := by rfl) (hpl : (backTo pos (starEach [b] X.env)).any (·.1) = false := by rfl) :
    EvF X (.Call (.Name "min" p) [a, b] [] pos) σ F M iR (min i j) :=
  fun F1 H1 s w Q q => we_of (pe_callB (call_min2 hc) hg hm (by decide +kernel) (pa_cons (pe_w a) (pa_cons (pe_w b) pa_nil he2) he) (he := he) (hpl := hpl)) (ha F1 H1 s w _ fun F2 H2 v s2 w2 hv => hb F2 H2 (s.trans s2) w2 _ fun F3 H3 u s3 w3 hu =>
    ⟨i, j, by rw [show v = V.int i from hv, show u = V.int j from hu], q F3 H3 _ (s2.trans s3) w3 (by show V.int _ = V.int _; congr 1; rw [Int.min_def]; split <;> split <;> omega)⟩)
theorem bx_eqB {i j : Bool} (ha : EvF X a σ F M bR i) (hb : EvF X b σ F M bR j) : Bx X (.Compare a [.Eq] [b] pos) σ F M (decide (i = j)) :=
  bx_c (ec_R op_eq ha hb (fun _ _ _ _ h => h) fun _ _ v u _ _ hv hu Q q => by
    cases (show v = V.bl i from hv); cases (show u = V.bl j from hu)
    refine ⟨rfl, ?_⟩
    rw [dec_bl]; exact q)
theorem bx_neB {i j : Bool} (ha : EvF X a σ F M bR i) (hb : EvF X b σ F M bR j) : Bx X (.Compare a [.NotEq] [b] pos) σ F M (!decide (i = j)) :=
  bx_c (ec_R op_ne ha hb (fun _ _ _ _ h => h) fun _ _ v u _ _ hv hu Q q => by
    cases (show v = V.bl i from hv); cases (show u = V.bl j from hu)
    refine ⟨rfl, ?_⟩
    rw [dec_bl]; exact q)
theorem oR_non {F : Hp} {v : V} {x : Option α} (hn : ∀ (F : Hp) (v : V) (y : α), r F v y → v ≠ .non) (h : oR r F v x) : decide (v = .non) = x.isNone := by
  cases x with
  | none => rw [show v = V.non from h]; rfl
  | some y => exact decide_eq_false (hn F v y h)
class NotN {α : Type} (r : Rep α) : Prop where
  nn : ∀ {F : Hp} {v : V} {y : α}, r F v y → v ≠ .non
instance : NotN iR := ⟨fun h => by cases h; exact fun z => nomatch z⟩
instance : NotN bR := ⟨fun h => by cases h; exact fun z => nomatch z⟩
instance : NotN sR := ⟨fun h => by cases h.1; exact fun z => nomatch z⟩
instance : NotN (lR r) := ⟨fun ⟨a, vs, e, _⟩ => by subst e; exact fun z => nomatch z⟩
instance : NotN (t2R r s) := ⟨fun ⟨a, _, _, e, _⟩ => by subst e; exact fun z => nomatch z⟩
instance : NotN (t3R r s t) := ⟨fun ⟨a, _, _, _, e, _⟩ => by subst e; exact fun z => nomatch z⟩
theorem bx_isN [NotN r] [m : Mono r] {x : Option α} {j q1} (ha : EvF X a σ F M (oR r) x) : Bx X (.Compare a [.Is] [.Constant .none j q1] pos) σ F M x.isNone :=
  bx_c (fun F1 H1 s w Q q => wc_of (pc_isN (pe_w a)) (ha F1 H1 s w _ fun F2 H2 v s2 w2 hv => by rw [oR_non (fun _ _ _ h => NotN.nn h) hv]; exact q F2 H2 s2 w2))
theorem bx_isNot [NotN r] [m : Mono r] {x : Option α} {j q1} (ha : EvF X a σ F M (oR r) x) : Bx X (.Compare a [.IsNot] [.Constant .none j q1] pos) σ F M (!x.isNone) :=
  bx_c (fun F1 H1 s w Q q => wc_of (pc_notN (pe_w a)) (ha F1 H1 s w _ fun F2 H2 v s2 w2 hv => by rw [oR_non (fun _ _ _ h => NotN.nn h) hv]; exact q F2 H2 s2 w2))
/-- x[i] = e, x a list of one's own -/
theorem ss_put {ix : Expr} {l : Addr} {vs : List V} {xs : List α} {x : α} {k : Int} (i : Nat) {q1 q2 : Pos} [m : Mono r] (hs : σ[i]? = some (some (.ref l))) (hM : M l = some (.lst vs)) (hA : A2 (r F) vs xs) (he : EvF X e σ F M r x) (hix : EvF X ix σ F M iR k) (w : Own F M H) (h0 : 0 ≤ k) (h1 : k < xs.length)
    (kk : ∀ F2 M2 H2 v, Same F F2 → M2 = upd M l (.lst (vs.set k.toNat v)) → Own F2 M2 H2 → A2 (r F2) (vs.set k.toNat v) (xs.set k.toNat x) → WSs X rest D σ H2) (hN : X.N[i]? = some n := by rfl)
    (hv : Vis X.env.scope n := by first | exact Or.inl rfl | exact Or.inr (Or.inl rfl) | exact Or.inr (Or.inr rfl)) (hd : (n == ("__debug__" : Str)) = false := by decide) (hcd : (n == ("__classdict__" : Str)) = false := by decide)
    (z1 : swapsWithSole [.Subscript (.Name n q1) ix q2] e pos.line X.env = pure false := by rfl) (z2 : swappedStores [.Subscript (.Name n q1) ix q2] e X.env = pure none := by rfl)
    (z3 : (assignEach [.Subscript (.Name n q1) ix q2] X.env).map (·.2) = [assign (.Subscript (.Name n q1) ix q2) X.env] := by rfl)
    (z4 : ∀ v, assign (.Subscript (.Name n q1) ix q2) X.env v = (do
      let ov ← holding [v] (eval (.Name n q1) X.env)
      let iv ← holding [v, ov] (eval ix X.env)
      standAt q2
      holding [v, ov, iv] (setItem ov iv v)
      release [v, ov, iv] []) := by intro _; rfl) :
    WSs X (.Assign [.Subscript (.Name n q1) ix q2] e pos :: rest) D σ H :=
  wss_cons (ws_of (ps_asg (pe_w e) (pg_sub (pe_var hN hv hd hcd) (pe_w ix) set_list z4) z1 z2 z3) (he F H (Same.refl _) w _ fun F2 H2 v s2 w2 hv => ⟨_, hs, hix F2 H2 s2 w2 _ fun F3 H3 u s3 w3 hu => by
    have hlen := hA.len
    refine ⟨l, vs, k, k.toNat, rfl, hu, w3.m _ _ hM, ?_, kk F3 _ _ v (s2.trans s3) rfl (w3.put hM) (A2.set (m.mono s3 hv) k.toNat (hA.up (s2.trans s3)))⟩
    unfold ixN
    rw [if_pos h0, if_pos (by omega)]⟩))
end
end Y

namespace Q
open PySem PySem.Spec PyProof.Rows L2 Y

def keysFrom (last : Int) : List Int → Bool
  | [] => true
  | p :: t => if (decide (p ≤ last) || decide (127 < p)) = true then false else keysFrom p t
def areKeys (ks : List Int) : Bool := if (decide ((ks.length : Int) < 1) || decide (40 < (ks.length : Int))) = true then false else keysFrom (-1) ks
theorem keysFrom_at {last : Int} {ks : List Int} {i : Nat} {p : Int} (h : ks[i]? = some p) : keysFrom last (ks.drop i) = if (decide (p ≤ last) || decide (127 < p)) = true then false else keysFrom p (ks.drop (i + 1)) := by
  rw [List.getElem?_eq_some_iff] at h
  obtain ⟨hi, rfl⟩ := h
  rw [List.drop_eq_getElem_cons hi]
  rfl
def cellAt (xs : List Int) (k : Int) : Int := if (decide (k < (xs.length : Int))) = true then gI xs k else 0

theorem due_step {some_ : List Int} {i0 : Nat} {last k : Int} (e : k = 0 + (i0 : Int)) (hg : some_[i0]? = some (gI some_ ((i0 : Nat) : Int))) (hk : areKeys some_ = keysFrom last (some_.drop i0)) (hz : i0 = 0 → last = -1) (hp : 0 < i0 → 0 ≤ last ∧ gI some_ ((i0 : Int) - 1) = last)
    (h0 : 0 ≤ gI some_ k) (h1 : gI some_ k ≤ 127) (h2 : 0 < k → gI some_ (k - 1) < gI some_ k) :
    ∃ l2 : Int, areKeys some_ = keysFrom l2 (some_.drop (i0 + 1)) ∧ (i0 + 1 = 0 → l2 = -1) ∧ (0 < i0 + 1 → 0 ≤ l2 ∧ gI some_ (((i0 + 1 : Nat) : Int) - 1) = l2) := by
  have ek : k = (i0 : Int) := by omega
  subst ek
  have hlt : last < gI some_ (i0 : Int) := by
    rcases Nat.eq_zero_or_pos i0 with z | z
    · have := hz z; omega
    · have := (hp z).2; have := h2 (by omega); omega
  refine ⟨gI some_ (i0 : Int), ?_, fun h => by omega, fun _ => ⟨h0, by congr 1; omega⟩⟩
  rw [hk, keysFrom_at hg, if_neg (by simp; omega)]
theorem due_no {some_ : List Int} {i0 : Nat} {last k : Int} (e : k = 0 + (i0 : Int)) (hg : some_[i0]? = some (gI some_ ((i0 : Nat) : Int))) (hk : areKeys some_ = keysFrom last (some_.drop i0)) (hz : i0 = 0 → last = -1) (hp : 0 < i0 → 0 ≤ last ∧ gI some_ ((i0 : Int) - 1) = last)
    (h : ¬ (0 ≤ gI some_ k ∧ gI some_ k ≤ 127 ∧ (0 < k → gI some_ (k - 1) < gI some_ k))) : false = areKeys some_ := by
  have ek : k = (i0 : Int) := by omega
  subst ek
  rw [hk, keysFrom_at hg, if_pos]
  simp only [Bool.or_eq_true, decide_eq_true_eq]
  rcases Nat.eq_zero_or_pos i0 with z | z
  · have := hz z
    have : ¬ (0 < (i0 : Int)) := by omega
    by_cases a : gI some_ (i0 : Int) ≤ last
    · exact .inl a
    · refine .inr ?_
      by_cases b : 127 < gI some_ (i0 : Int)
      · exact b
      · exact absurd ⟨by omega, by omega, fun q => absurd q this⟩ h
  · have h3 := hp z
    by_cases a : gI some_ (i0 : Int) ≤ last
    · exact .inl a
    · refine .inr ?_
      by_cases b : 127 < gI some_ (i0 : Int)
      · exact b
      · exact absurd ⟨by omega, by omega, fun q => by omega⟩ h

def spLaw (K : PySem.W.Frag) : Sp := (FSp (α := (List Int) × Unit) (ac (rsR K iR) an) (fun x => (x.1).length ≤ 63) (fun _ _ v => v = V.bl true))
def topS (i : Nat) : Stmt := PySem.Challenge.pw_pinbarrel_k01_keys.main.body.getD i (.Pass ⟨0, 0, 0, 0⟩)
abbrev s_cell_at : Stmt := topS 5
theorem sc_cell_at : FnScope ["_law_script", "_law_k"] ["_law_script", "_law_k"] (defScope s_cell_at) := ⟨rfl, rfl, rfl, by decide +kernel, rfl, by decide +kernel, by decide +kernel⟩
abbrev s_are_keys : Stmt := topS 3
theorem sc_are_keys : FnScope ["some", "last", "pitch"] ["some"] (defScope s_are_keys) := ⟨rfl, rfl, rfl, by decide +kernel, rfl, by decide +kernel, by decide +kernel⟩
abbrev s_due : Stmt := topS 6
theorem sc_due : FnScope ["_law_some", "_law_k"] ["_law_some"] (defScope s_due) := ⟨rfl, rfl, rfl, by decide +kernel, rfl, by decide +kernel, by decide +kernel⟩
abbrev s_law : Stmt := topS 7
theorem sc_law : FnScope ["_law_script", "_law_first", "_law_some", "_law_at", "_law_steps", "_law_cell", "_law_k", "_law_one", "_law_place", "_law_ahead", "_law_odd", "_law_handed", "_law_found"] ["_law_script"] (defScope s_law) := ⟨rfl, rfl, rfl, by decide +kernel, rfl, by decide +kernel, by decide +kernel⟩
/-- where the defs stand -/
structure Ad where
  a_cell_at : Addr
  d_cell_at : FuncData
  a_are_keys : Addr
  d_are_keys : FuncData
  a_due : Addr
  d_due : FuncData
  a_law : Addr
  d_law : FuncData
structure Txt (K : PySem.W.Frag) (mg : Str → Option Value) (ad : Ad) : Prop where
  F_cell_at : Fun K "_law_cell_at" "_law_cell_at" s_cell_at ad.a_cell_at ad.d_cell_at
  g_cell_at : mg "_law_cell_at" = some (.ref ad.a_cell_at)
  b_cell_at : Binds K ad.d_cell_at ["_law_script", "_law_k"] []
  F_are_keys : Fun K "are_keys" "are_keys" s_are_keys ad.a_are_keys ad.d_are_keys
  g_are_keys : mg "are_keys" = some (.ref ad.a_are_keys)
  b_are_keys : Binds K ad.d_are_keys ["some"] []
  F_due : Fun K "_law_due" "_law_due" s_due ad.a_due ad.d_due
  g_due : mg "_law_due" = some (.ref ad.a_due)
  b_due : Binds K ad.d_due ["_law_some"] []
  F_law : Fun K "law" "law" s_law ad.a_law ad.d_law
  g_law : mg "law" = some (.ref ad.a_law)
  b_law : Binds K ad.d_law ["_law_script"] []
  bool_n : mg "bool" = none
  isinstance_n : mg "isinstance" = none
  len_n : mg "len" = none
  list_n : mg "list" = none
  max_n : mg "max" = none
  range_n : mg "range" = none
  c_MOST : ∃ t, mg "MOST" = some (.int 40 t)
  c_HIGHEST : ∃ t, mg "HIGHEST" = some (.int 127 t)
section
variable {P : Program} {w : World} {K : PySem.W.Frag} {mg : Str → Option Value} {base : Heap} {ad : Ad}
theorem ok_cell_at (T : Txt K mg ad) : FnOk P w K mg base CX0 1 ad.a_cell_at ad.d_cell_at ["_law_script", "_law_k"] (FSp (α := (List Int) × Int × Unit) (ac (rsR K iR) (ac iR an)) (fun x => 0 ≤ x.2.1) (fun x F v => iR F v (cellAt x.1 x.2.1))) := by
  have nd : List.Nodup (α := Str) ["_law_script", "_law_k"] := sc_cell_at.nd
  refine ok_def T.F_cell_at sc_cell_at (fun vs H Q E h => ?_) (fun cdv A outer s H vs Q E hr h => ?_)
  · obtain ⟨F, M, x, ⟨_, _, rfl, _, ⟨_, _, rfl, _, rfl⟩⟩, _⟩ := h; rfl
  obtain ⟨F, M, ⟨script, k, _⟩, ⟨v0, us0, rfl, hp0, ⟨v1, us1, rfl, hp1, rfl⟩⟩, hpre, w, kk⟩ := h
  have h_script : (rsR K iR) F v0 script := hp0
  have h_k : iR F v1 k := hp1
  cases (show v1 = V.int k from h_k)
  have hpre : 0 ≤ k := hpre
  show WSs _ _ _ [some v0, some (.int k)] _
  refine ss_if (bx_lt (ev_var (r := iR) 1 rfl rfl) (ev_len T.len_n (Ev.sd (ev_var 0 rfl h_script)))) w (fun cR0 H1 w => ?_) (fun cR0 H1 w => ?_)
  · have cN0 := cR0; try simp only [Bool.or_eq_true, Bool.or_eq_false_iff, Bool.and_eq_true, Bool.and_eq_false_imp, decide_eq_true_eq, decide_eq_false_iff_not, Bool.not_eq_true', Bool.not_eq_false', Bool.not_true, Bool.not_false, Int.not_lt, Int.not_le] at cN0
    refine ss_ret (ev_ix (Ev.sd (ev_var 0 rfl h_script)) (ev_var (r := iR) 1 rfl rfl) (by /-ix.0-/ first | (constructor <;> omega) | (constructor <;> (simp <;> omega)))) w (fun F1 H2 v1 s1 w (hv1 : iR F1 v1 (gI script k)) => kk _ _ _ ((Same.refl _).trans s1) (w.lessM (Same.refl _)) ?_)
    show iR F1 v1 (cellAt script k)
    have hq : (gI script k) = (cellAt script k) := (by /-ret.0-/ unfold cellAt; rw [if_pos cR0])
    rw [← hq]; exact hv1
  · have cN0 := cR0; try simp only [Bool.or_eq_true, Bool.or_eq_false_iff, Bool.and_eq_true, Bool.and_eq_false_imp, decide_eq_true_eq, decide_eq_false_iff_not, Bool.not_eq_true', Bool.not_eq_false', Bool.not_true, Bool.not_false, Int.not_lt, Int.not_le] at cN0
    refine ss_nil ?_
    show WSs _ _ _ [some v0, some (.int k)] _
    refine ss_ret ev_int w (fun F2 H3 v2 s2 w (hv2 : iR F2 v2 (0 : Int)) => kk _ _ _ ((Same.refl _).trans s2) (w.lessM (Same.refl _)) ?_)
    show iR F2 v2 (cellAt script k)
    have hq : (0 : Int) = (cellAt script k) := (by /-ret.1-/ unfold cellAt; rw [if_neg (by rw [cR0]; exact Bool.false_ne_true)])
    rw [← hq]; exact hv2
theorem ok_are_keys (T : Txt K mg ad) : FnOk P w K mg base CX0 1 ad.a_are_keys ad.d_are_keys ["some"] (FSp (α := (List Int) × Unit) (ac (lR iR) an) (fun x => True) (fun x F v => bR F v (areKeys x.1))) := by
  have nd : List.Nodup (α := Str) ["some", "last", "pitch"] := sc_are_keys.nd
  refine ok_def T.F_are_keys sc_are_keys (fun vs H Q E h => ?_) (fun cdv A outer s H vs Q E hr h => ?_)
  · obtain ⟨F, M, x, ⟨_, _, rfl, _, rfl⟩, _⟩ := h; rfl
  obtain ⟨F, M, ⟨some_, _⟩, ⟨v0, us0, rfl, hp0, rfl⟩, hpre, w, kk⟩ := h
  have h_some_ : (lR iR) F v0 some_ := hp0
  show WSs _ _ _ [some v0, none, none] _
  refine ss_if (bx_l (bl_or (bx_lt (ev_len T.len_n (Ev.rd (ev_var 0 rfl h_some_))) ev_int) fun g1 => (bl_one_or (bx_gt (ev_len T.len_n (Ev.rd (ev_var 0 rfl h_some_))) (ev_globI T.c_MOST.choose_spec))))) w (fun cR0 H1 w => ?_) (fun cR0 H1 w => ?_)
  · have cN0 := cR0; try simp only [Bool.or_eq_true, Bool.or_eq_false_iff, Bool.and_eq_true, Bool.and_eq_false_imp, decide_eq_true_eq, decide_eq_false_iff_not, Bool.not_eq_true', Bool.not_eq_false', Bool.not_true, Bool.not_false, Int.not_lt, Int.not_le] at cN0
    refine ss_ret ev_bl w (fun F1 H2 v1 s1 w (hv1 : bR F1 v1 false) => kk _ _ _ ((Same.refl _).trans s1) (w.lessM (Same.refl _)) ?_)
    show bR F1 v1 (areKeys some_)
    have hq : false = (areKeys some_) := (by /-ret.0-/ unfold areKeys; rw [if_pos cR0])
    rw [← hq]; exact hv1
  · have cN0 := cR0; try simp only [Bool.or_eq_true, Bool.or_eq_false_iff, Bool.and_eq_true, Bool.and_eq_false_imp, decide_eq_true_eq, decide_eq_false_iff_not, Bool.not_eq_true', Bool.not_eq_false', Bool.not_true, Bool.not_false, Int.not_lt, Int.not_le] at cN0
    refine ss_nil ?_
    show WSs _ _ _ [some v0, none, none] _
    refine ss_setI 1 (ev_neg ev_int) w (fun H3 w => ?_) nd
    show WSs _ _ _ [some v0, some (.int (-(1 : Int))), none] _
    refine ss_for 2 (ei_list (r := iR) (Ev.rs (ev_var 0 rfl h_some_))) w (fun i F1 M1 σ1 => ∃ (last1 : Int) (o_pitch : Option V), σ1 = [some v0, some (.int last1), o_pitch] ∧ M = M1 ∧ (areKeys some_ = keysFrom last1 ((some_ : List Int).drop i))) (fun F1 s1 => ?_) ?_ ?_ ?_ PassesOwn.never nd
    · refine ⟨(-(1 : Int)), none, rfl, rfl, ?_⟩
      show areKeys some_ = keysFrom (-(1 : Int)) ((some_ : List Int).drop 0)
      exact (by /-init0-/ unfold areKeys; rw [if_neg (by rw [cR0]; exact Bool.false_ne_true)]; rfl)
    · exact fun _ _ _ _ _ _ h => h
    · rintro F2 i0 pitch1 v_pitch1 F3 M1 H4 σ1 s2 hx0 ⟨last1, o_pitch, rfl, rfl, hI0⟩ s3 w h_pitch_1
      replace hI0 : areKeys some_ = keysFrom last1 ((some_ : List Int).drop i0) := hI0
      have h_some__1 := Mono.mono (s2.trans s3) h_some_
      cases (show v_pitch1 = V.int pitch1 from h_pitch_1)
      have hl0 := (List.getElem?_eq_some_iff.mp hx0).1
      show WSs _ _ _ [some v0, some (.int last1), some (.int pitch1)] _
      refine ss_if (bx_l (bl_or (bx_le (ev_var (r := iR) 2 rfl rfl) (ev_var (r := iR) 1 rfl rfl)) fun g2 => (bl_one_or (bx_gt (ev_var (r := iR) 2 rfl rfl) (ev_globI T.c_HIGHEST.choose_spec))))) w (fun cR1 H5 w => ?_) (fun cR1 H5 w => ?_)
      · have cN1 := cR1; try simp only [Bool.or_eq_true, Bool.or_eq_false_iff, Bool.and_eq_true, Bool.and_eq_false_imp, decide_eq_true_eq, decide_eq_false_iff_not, Bool.not_eq_true', Bool.not_eq_false', Bool.not_true, Bool.not_false, Int.not_lt, Int.not_le] at cN1
        refine ss_ret ev_bl w (fun F4 H6 v2 s4 w (hv2 : bR F4 v2 false) => kk _ _ _ ((s2.trans s3).trans s4) (w.lessM (Same.refl _)) ?_)
        show bR F4 v2 (areKeys some_)
        have hq : false = (areKeys some_) := (by /-ret.1-/ rw [hI0, keysFrom_at hx0, if_pos cR1])
        rw [← hq]; exact hv2
      · have cN1 := cR1; try simp only [Bool.or_eq_true, Bool.or_eq_false_iff, Bool.and_eq_true, Bool.and_eq_false_imp, decide_eq_true_eq, decide_eq_false_iff_not, Bool.not_eq_true', Bool.not_eq_false', Bool.not_true, Bool.not_false, Int.not_lt, Int.not_le] at cN1
        refine ss_nil ?_
        show WSs _ _ _ [some v0, some (.int last1), some (.int pitch1)] _
        refine ss_setI 1 (ev_var (r := iR) 2 rfl rfl) w (fun H7 w => ?_) nd
        show WSs _ _ _ [some v0, some (.int pitch1), some (.int pitch1)] _
        refine ss_nil ?_
        refine ⟨_, _, s3, w, pitch1, some (.int pitch1), rfl, rfl, ?_⟩
        show areKeys some_ = keysFrom pitch1 ((some_ : List Int).drop (i0 + 1))
        exact (by /-step0.0-/ rw [hI0, keysFrom_at hx0, if_neg (by rw [cR1]; exact Bool.false_ne_true)])
    · rintro F5 M1 H8 σ1 s5 w ⟨last1, o_pitch, rfl, rfl, hI0⟩
      replace hI0 : areKeys some_ = keysFrom last1 ((some_ : List Int).drop (some_).length) := hI0
      have h_some__2 := Mono.mono s5 h_some_
      show WSs _ _ _ [some v0, some (.int last1), o_pitch] _
      refine ss_ret ev_bl w (fun F6 H9 v3 s6 w (hv3 : bR F6 v3 true) => kk _ _ _ (s5.trans s6) (w.lessM (Same.refl _)) ?_)
      show bR F6 v3 (areKeys some_)
      have hq : true = (areKeys some_) := (by /-ret.2-/ rw [hI0, List.drop_length]; rfl)
      rw [← hq]; exact hv3
theorem ok_due (T : Txt K mg ad) : FnOk P w K mg base CX0 1 ad.a_due ad.d_due ["_law_some"] (FSp (α := (List Int) × Unit) (ac (lR iR) an) (fun x => True) (fun x F v => bR F v (areKeys x.1))) := by
  have nd : List.Nodup (α := Str) ["_law_some", "_law_k"] := sc_due.nd
  refine ok_def T.F_due sc_due (fun vs H Q E h => ?_) (fun cdv A outer s H vs Q E hr h => ?_)
  · obtain ⟨F, M, x, ⟨_, _, rfl, _, rfl⟩, _⟩ := h; rfl
  obtain ⟨F, M, ⟨some_, _⟩, ⟨v0, us0, rfl, hp0, rfl⟩, hpre, w, kk⟩ := h
  have h_some_ : (lR iR) F v0 some_ := hp0
  show WSs _ _ _ [some v0, none] _
  refine ss_if (bx_l (bl_or (bx_lt (ev_len T.len_n (Ev.rd (ev_var 0 rfl h_some_))) ev_int) fun g1 => (bl_one_or (bx_gt (ev_len T.len_n (Ev.rd (ev_var 0 rfl h_some_))) ev_int)))) w (fun cR0 H1 w => ?_) (fun cR0 H1 w => ?_)
  · have cN0 := cR0; try simp only [Bool.or_eq_true, Bool.or_eq_false_iff, Bool.and_eq_true, Bool.and_eq_false_imp, decide_eq_true_eq, decide_eq_false_iff_not, Bool.not_eq_true', Bool.not_eq_false', Bool.not_true, Bool.not_false, Int.not_lt, Int.not_le] at cN0
    refine ss_ret ev_bl w (fun F1 H2 v1 s1 w (hv1 : bR F1 v1 false) => kk _ _ _ ((Same.refl _).trans s1) (w.lessM (Same.refl _)) ?_)
    show bR F1 v1 (areKeys some_)
    have hq : false = (areKeys some_) := (by /-ret.0-/ unfold areKeys; rw [if_pos cR0])
    rw [← hq]; exact hv1
  · have cN0 := cR0; try simp only [Bool.or_eq_true, Bool.or_eq_false_iff, Bool.and_eq_true, Bool.and_eq_false_imp, decide_eq_true_eq, decide_eq_false_iff_not, Bool.not_eq_true', Bool.not_eq_false', Bool.not_true, Bool.not_false, Int.not_lt, Int.not_le] at cN0
    refine ss_nil ?_
    show WSs _ _ _ [some v0, none] _
    refine ss_for 1 (ei_range1 T.range_n (ev_len T.len_n (Ev.rd (ev_var 0 rfl h_some_))) (by /-rng.0-/ constructor <;> omega)) w (fun i F1 M1 σ1 => ∃ (o_k : Option V), σ1 = [some v0, o_k] ∧ M = M1 ∧ (∃ last : Int, areKeys some_ = keysFrom last (some_.drop i) ∧ ((i : Nat) = 0 → last = -1) ∧ (0 < (i : Nat) → 0 ≤ last ∧ gI some_ (((i : Nat) : Int) - 1) = last))) (fun F1 s1 => ?_) ?_ ?_ ?_ PassesOwn.never nd
    · refine ⟨none, rfl, rfl, ?_⟩
      show ∃ last : Int, areKeys some_ = keysFrom last (some_.drop 0) ∧ ((0 : Nat) = 0 → last = -1) ∧ (0 < (0 : Nat) → 0 ≤ last ∧ gI some_ (((0 : Nat) : Int) - 1) = last)
      exact (by /-init0-/ refine ⟨-1, ?_, fun _ => rfl, fun h => absurd h (by decide)⟩; unfold areKeys; rw [if_neg (by rw [cR0]; exact Bool.false_ne_true)]; rfl)
    · exact fun _ _ _ _ _ _ h => h
    · rintro F2 i0 k1 v_k1 F3 M1 H3 σ1 s2 hx0 ⟨o_k, rfl, rfl, hI0⟩ s3 w h_k_1
      replace hI0 : ∃ last : Int, areKeys some_ = keysFrom last (some_.drop i0) ∧ ((i0 : Nat) = 0 → last = -1) ∧ (0 < (i0 : Nat) → 0 ≤ last ∧ gI some_ (((i0 : Nat) : Int) - 1) = last) := hI0
      have h_some__1 := Mono.mono (s2.trans s3) h_some_
      cases (show v_k1 = V.int k1 from h_k_1)
      obtain ⟨hl0, e_k1⟩ := rng_at hx0
      show WSs _ _ _ [some v0, some (.int k1)] _
      obtain ⟨last, hk, hz, hp⟩ := hI0
      have hg : some_[i0]? = some (gI some_ ((i0 : Nat) : Int)) := by have := gI_nat (xs := some_) (i := ((i0 : Nat) : Int)) (by omega) (by omega); simpa using this
      refine ss_if (bx_l (bl_or (bx_lt (ev_ix (Ev.rd (ev_var 0 rfl h_some__1)) (ev_var (r := iR) 1 rfl rfl) (by /-ix.0-/ constructor <;> omega)) ev_int) fun g2 => (bl_or (bx_gt (ev_ix (Ev.rd (ev_var 0 rfl h_some__1)) (ev_var (r := iR) 1 rfl rfl) (by /-ix.1-/ constructor <;> omega)) ev_int) fun g3 => (bl_one_or (bx_l (bl_and (bx_gt (ev_var (r := iR) 1 rfl rfl) ev_int) fun g4 => (bl_one_and (bx_ge (ev_ix (Ev.rd (ev_var 0 rfl h_some__1)) (ev_sub (ev_var (r := iR) 1 rfl rfl) ev_int) (by /-ix.2-/ constructor <;> omega)) (ev_ix (Ev.rd (ev_var 0 rfl h_some__1)) (ev_var (r := iR) 1 rfl rfl) (by /-ix.3-/ constructor <;> omega)))))))))) w (fun cR1 H4 w => ?_) (fun cR1 H4 w => ?_)
      · have cN1 := cR1; try simp only [Bool.or_eq_true, Bool.or_eq_false_iff, Bool.and_eq_true, Bool.and_eq_false_imp, decide_eq_true_eq, decide_eq_false_iff_not, Bool.not_eq_true', Bool.not_eq_false', Bool.not_true, Bool.not_false, Int.not_lt, Int.not_le] at cN1
        refine ss_ret ev_bl w (fun F4 H5 v2 s4 w (hv2 : bR F4 v2 false) => kk _ _ _ ((s2.trans s3).trans s4) (w.lessM (Same.refl _)) ?_)
        show bR F4 v2 (areKeys some_)
        have hq : false = (areKeys some_) := (by /-ret.1-/ refine due_no e_k1 hg hk hz hp (fun z => ?_); omega)
        rw [← hq]; exact hv2
      · have cN1 := cR1; try simp only [Bool.or_eq_true, Bool.or_eq_false_iff, Bool.and_eq_true, Bool.and_eq_false_imp, decide_eq_true_eq, decide_eq_false_iff_not, Bool.not_eq_true', Bool.not_eq_false', Bool.not_true, Bool.not_false, Int.not_lt, Int.not_le] at cN1
        refine ss_nil ?_
        show WSs _ _ _ [some v0, some (.int k1)] _
        refine ss_nil ?_
        refine ⟨_, _, s3, w, some (.int k1), rfl, rfl, ?_⟩
        show ∃ last : Int, areKeys some_ = keysFrom last (some_.drop (i0 + 1)) ∧ (((i0 + 1) : Nat) = 0 → last = -1) ∧ (0 < ((i0 + 1) : Nat) → 0 ≤ last ∧ gI some_ ((((i0 + 1) : Nat) : Int) - 1) = last)
        exact (by /-step0.0-/ exact due_step e_k1 hg hk hz hp (by omega) (by omega) (by omega))
    · rintro F5 M1 H6 σ1 s5 w ⟨o_k, rfl, rfl, hI0⟩
      replace hI0 : ∃ last : Int, areKeys some_ = keysFrom last (some_.drop (((some_).length : Int)).toNat) ∧ (((((some_).length : Int)).toNat : Nat) = 0 → last = -1) ∧ (0 < ((((some_).length : Int)).toNat : Nat) → 0 ≤ last ∧ gI some_ ((((((some_).length : Int)).toNat : Nat) : Int) - 1) = last) := (by have z := hI0; first | (simp only [rng_len] at z; exact z) | exact z)
      have h_some__2 := Mono.mono s5 h_some_
      show WSs _ _ _ [some v0, o_k] _
      refine ss_ret ev_bl w (fun F6 H7 v3 s6 w (hv3 : bR F6 v3 true) => kk _ _ _ (s5.trans s6) (w.lessM (Same.refl _)) ?_)
      show bR F6 v3 (areKeys some_)
      have hq : true = (areKeys some_) := (by /-ret.2-/ obtain ⟨last, hk, _⟩ := hI0; rw [hk]; simp [keysFrom])
      rw [← hq]; exact hv3
theorem ok_law (T : Txt K mg ad) : FnOk P w K mg base CX0 2 ad.a_law ad.d_law ["_law_script"] (FSp (α := (List Int) × Unit) (ac (rsR K iR) an) (fun x => (x.1).length ≤ 63) (fun _ _ v => v = V.bl true)) := by
  have nd : List.Nodup (α := Str) ["_law_script", "_law_first", "_law_some", "_law_at", "_law_steps", "_law_cell", "_law_k", "_law_one", "_law_place", "_law_ahead", "_law_odd", "_law_handed", "_law_found"] := sc_law.nd
  refine ok_def T.F_law sc_law (fun vs H Q E h => ?_) (fun cdv A outer s H vs Q E hr h => ?_)
  · obtain ⟨F, M, x, ⟨_, _, rfl, _, rfl⟩, _⟩ := h; rfl
  obtain ⟨F, M, ⟨script, _⟩, ⟨v0, us0, rfl, hp0, rfl⟩, hpre, w, kk⟩ := h
  have h_script : (rsR K iR) F v0 script := hp0
  have hpre : (script).length ≤ 63 := hpre
  show WSs _ _ _ [some v0, none, none, none, none, none, none, none, none, none, none, none, none] _
  obtain ⟨first1, e_first1⟩ : ∃ z, z = (cellAt script (0 : Int)) := ⟨_, rfl⟩
  refine ss_setI 1 (Ev.eq (show EvF _ _ _ _ _ iR (cellAt script (0 : Int)) from ev_call (x := (script, (0 : Int), ())) (ok_cell_at T) (hr.mono (by decide)) T.g_cell_at T.F_cell_at.kp T.b_cell_at (ea_cons (r := (rsR K iR)) (ev_var 0 rfl h_script) (ea_cons (r := iR) ev_int ea_nil)) (by /-pre__law_cell_at.0-/ first | assumption | omega | simp_all)) e_first1.symm) w (fun H1 w => ?_) nd
  show WSs _ _ _ [some v0, some (.int first1), none, none, none, none, none, none, none, none, none, none, none] _
  refine ss_setN 2 (en_lst (r := iR) ea_nilL) w (fun F1 H2 l1 vs1 s1 nl1 w h_some__1 => ?_) nd
  have h_script_1 := Mono.mono s1 h_script
  have nn_l1 : M l1 = none := Same.no (Same.refl _) nl1
  show WSs _ _ _ [some v0, some (.int first1), some (.ref l1), none, none, none, none, none, none, none, none, none, none] _
  obtain ⟨at_1, e_at_1⟩ : ∃ z, z = ((first1 / (2 : Int)) % (70 : Int)) := ⟨_, rfl⟩
  refine ss_setI 3 (Ev.eq (ev_mod (ev_div (ev_var (r := iR) 1 rfl rfl) ev_int) ev_int) e_at_1.symm) w (fun H3 w => ?_) nd
  show WSs _ _ _ [some v0, some (.int first1), some (.ref l1), some (.int at_1), none, none, none, none, none, none, none, none, none] _
  obtain ⟨steps1, e_steps1⟩ : ∃ z, z = (((cutL script (some (1 : Int)) (some (46 : Int))).filter (fun (cell_c1 : Int) => true)).map (fun (cell_c1 : Int) => ((1 : Int) + (cell_c1 % (4 : Int))))) := ⟨_, rfl⟩
  refine ss_lc (r := iR) (s := iR) (hb := show blkC ["_law_script", "_law_first", "_law_some", "_law_at", "_law_steps", "_law_cell", "_law_k", "_law_one", "_law_place", "_law_ahead", "_law_odd", "_law_handed", "_law_found"] (defScope s_law) _ [("_law_cell", 5)] = true from by decide +kernel) 4 5 (fun (cell_c1 : Int) => true) (fun (cell_c1 : Int) => ((1 : Int) + (cell_c1 % (4 : Int)))) (ei_list (r := iR) (Ev.rs (EvN.fz (en_slice (Ev.sd (ev_var 0 rfl h_script_1)) (show EvO _ _ _ _ _ (some (1 : Int)) from ev_int) (show EvO _ _ _ _ _ (some (46 : Int)) from ev_int))))) (fun cell_c1 vcell_c1 Fc1 Mc1 hm1 sc1 sm1 hcell_c1 Y hY => by obtain ⟨_, _, _, _, _, rfl⟩ := hY; cases (show vcell_c1 = V.int cell_c1 from hcell_c1); have u1 := Mono.mono sc1 h_script_1; have u2 := A2.up sc1 h_some__1; exact ⟨ets_nil, fun g1 => (ev_add ev_int (ev_mod (ev_var (r := iR) 5 rfl rfl) ev_int))⟩) (by /-lc.0-/ simp only [List.length_append, List.length_map, List.length_reverse, rng_len, List.length_cons, List.length_nil] at *; first | omega | exact Nat.lt_of_le_of_lt (cutL_le _ _ _) (by omega) | exact Nat.lt_of_le_of_lt (List.length_filter_le _ _) (by omega)) nd w (fun F2 H4 l2 vs2 s2 nl2 w h_steps_1 => ?_)
  rw [← e_steps1] at h_steps_1
  have h_script_2 := Mono.mono s2 h_script_1
  have h_some__2 := A2.up s2 h_some__1
  have hln : steps1.length ≤ 63 := by rw [e_steps1]; refine Nat.le_trans lc_len ?_; first | exact Nat.le_trans (cutL_le _ _ _) hpre | (rw [rng_len]; omega)
  have ne_l1_l2 : l1 ≠ l2 := ne_of_none (H := (upd M l1 (.lst vs1))) upd_same nl2
  have nn_l2 : M l2 = none := Same.no (same_in (Same.refl _) nn_l1) nl2
  have s_F3 : Same F2 (upd F2 l2 (.lst vs2)) := same_new (w.d _ _ upd_same)
  replace w := w.fz1 ((upd_ne ne_l1_l2.symm).trans (nn_l2))
  have h_script_3 := Mono.mono s_F3 h_script_2
  have h_some__3 := A2.up s_F3 h_some__2
  have h_steps_2 : (lR iR) (upd F2 l2 (.lst vs2)) (.ref l2) steps1 := ⟨_, _, rfl, upd_same, A2.up s_F3 h_steps_1⟩
  show WSs _ _ _ [some v0, some (.int first1), some (.ref l1), some (.int at_1), some (.ref l2), none, none, none, none, none, none, none, none] _
  refine ss_if (bx_eqI (ev_mod (ev_div (ev_var (r := iR) 1 rfl rfl) ev_int) ev_int) ev_int) w (fun cR0 H5 w => ?_) (fun cR0 H5 w => ?_)
  · have cN0 := cR0; try simp only [Bool.or_eq_true, Bool.or_eq_false_iff, Bool.and_eq_true, Bool.and_eq_false_imp, decide_eq_true_eq, decide_eq_false_iff_not, Bool.not_eq_true', Bool.not_eq_false', Bool.not_true, Bool.not_false, Int.not_lt, Int.not_le] at cN0
    obtain ⟨steps2, e_steps2⟩ : ∃ z, z = (((rng 0 (((38 : Int) + ((first1 / (10 : Int)) % (5 : Int)))).toNat).filter (fun (k_c2 : Int) => true)).map (fun (k_c2 : Int) => ((1 : Int) + (((k_c2 + (first1 / (10 : Int))) % (9 : Int)) / (8 : Int))))) := ⟨_, rfl⟩
    refine ss_lc (r := iR) (s := iR) (hb := show blkC ["_law_script", "_law_first", "_law_some", "_law_at", "_law_steps", "_law_cell", "_law_k", "_law_one", "_law_place", "_law_ahead", "_law_odd", "_law_handed", "_law_found"] (defScope s_law) _ [("_law_k", 6)] = true from by decide +kernel) 4 6 (fun (k_c2 : Int) => true) (fun (k_c2 : Int) => ((1 : Int) + (((k_c2 + (first1 / (10 : Int))) % (9 : Int)) / (8 : Int)))) (ei_range1 T.range_n (ev_add ev_int (ev_mod (ev_div (ev_var (r := iR) 1 rfl rfl) ev_int) ev_int)) (by /-rng.0-/ constructor <;> omega)) (fun k_c2 vk_c2 Fc2 Mc2 hm2 sc2 sm2 hk_c2 Y hY => by obtain ⟨_, _, _, _, _, rfl⟩ := hY; cases (show vk_c2 = V.int k_c2 from hk_c2); have u3 := Mono.mono sc2 h_script_3; have u4 := Mono.mono sc2 h_steps_2; have u5 := A2.up sc2 h_some__3; exact ⟨ets_nil, fun g2 => (ev_add ev_int (ev_div (ev_mod (ev_add (ev_var (r := iR) 6 rfl rfl) (ev_div (ev_var (r := iR) 1 rfl rfl) ev_int)) ev_int) ev_int))⟩) (by /-lc.1-/ simp only [List.length_append, List.length_map, List.length_reverse, rng_len, List.length_cons, List.length_nil] at *; first | omega | exact Nat.lt_of_le_of_lt (cutL_le _ _ _) (by omega) | exact Nat.lt_of_le_of_lt (List.length_filter_le _ _) (by omega)) nd w (fun F4 H6 l3 vs3 s3 nl3 w h_steps_3 => ?_)
    rw [← e_steps2] at h_steps_3
    have h_script_4 := Mono.mono s3 h_script_3
    have h_some__4 := A2.up s3 h_some__3
    have hln : steps2.length ≤ 63 := by rw [e_steps2]; refine Nat.le_trans lc_len ?_; first | exact Nat.le_trans (cutL_le _ _ _) hpre | (rw [rng_len]; omega)
    have ne_l1_l3 : l1 ≠ l3 := ne_of_none (H := (upd M l1 (.lst vs1))) upd_same nl3
    have nn_l3 : M l3 = none := Same.no (same_in (Same.refl _) nn_l1) nl3
    have s_F5 : Same F4 (upd F4 l3 (.lst vs3)) := same_new (w.d _ _ upd_same)
    replace w := w.fz1 ((upd_ne ne_l1_l3.symm).trans (nn_l3))
    have h_script_5 := Mono.mono s_F5 h_script_4
    have h_some__5 := A2.up s_F5 h_some__4
    have h_steps_4 : (lR iR) (upd F4 l3 (.lst vs3)) (.ref l3) steps2 := ⟨_, _, rfl, upd_same, A2.up s_F5 h_steps_3⟩
    show WSs _ _ _ [some v0, some (.int first1), some (.ref l1), some (.int at_1), some (.ref l3), none, none, none, none, none, none, none, none] _
    obtain ⟨at_2, e_at_2⟩ : ∃ z, z = ((first1 / (50 : Int)) % (50 : Int)) := ⟨_, rfl⟩
    refine ss_setI 3 (Ev.eq (ev_mod (ev_div (ev_var (r := iR) 1 rfl rfl) ev_int) ev_int) e_at_2.symm) w (fun H7 w => ?_) nd
    show WSs _ _ _ [some v0, some (.int first1), some (.ref l1), some (.int at_2), some (.ref l3), none, none, none, none, none, none, none, none] _
    refine ss_nil ?_
    show WSs _ _ _ [some v0, some (.int first1), some (.ref l1), some (.int at_2), some (.ref l3), none, none, none, none, none, none, none, none] _
    refine ss_for 7 (ei_list (r := iR) (Ev.rs (ev_var 4 rfl h_steps_4))) w (fun i F1 M1 σ1 => ∃ (at_3 : Int) (o_one : Option V) (vs4 : List V) (some_1 : List Int), σ1 = [some v0, some (.int first1), some (.ref l1), some (.int at_3), some (.ref l3), none, none, o_one, none, none, none, none, none] ∧ (upd M l1 (.lst vs4)) = M1 ∧ A2 (iR F1) vs4 some_1 ∧ ((some_1.length : Int) = (i : Nat))) (fun F1 s1 => ?_) ?_ ?_ ?_ PassesOwn.never nd
    · refine ⟨at_2, none, vs1, ([] : List Int), rfl, rfl, A2.up s1 h_some__5, ?_⟩
      show (([] : List Int).length : Int) = (0 : Nat)
      exact (by /-init0-/ simp)
    · rintro i F1 F2 M1 σ1 s1 ⟨at_3, o_one, vs4, some_1, e1, e2, z0, hI⟩
      exact ⟨at_3, o_one, vs4, some_1, e1, e2, A2.up s1 z0, hI⟩
    · rintro F6 i0 one1 v_one1 F7 M1 H8 σ1 s4 hx0 ⟨at_3, o_one, vs4, some_1, rfl, rfl, h_some__6, hI0⟩ s5 w h_one_1
      replace hI0 : (some_1.length : Int) = (i0 : Nat) := hI0
      have h_script_6 := Mono.mono (s4.trans s5) h_script_5
      have h_steps_5 := Mono.mono (s4.trans s5) h_steps_4
      cases (show v_one1 = V.int one1 from h_one_1)
      have hl0 := (List.getElem?_eq_some_iff.mp hx0).1
      show WSs _ _ _ [some v0, some (.int first1), some (.ref l1), some (.int at_3), some (.ref l3), none, none, some (.int one1), none, none, none, none, none] _
      refine ss_append (r := iR) 2 rfl upd_same (ev_var (r := iR) 3 rfl rfl) w (by /-app.0-/ have := (h_some__6).len; omega) (fun F8 M2 H9 v1 s6 e2 w hv1 => ?_)
      have h_script_7 := Mono.mono s6 h_script_6
      have h_steps_6 := Mono.mono s6 h_steps_5
      have h_some__7 := A2.up s6 h_some__6
      have h_some__8 := A2.push h_some__7 hv1
      subst e2
      replace w : Own F8 (upd M l1 (.lst (vs4 ++ [v1]))) H9 := w.cast (upd_upd)
      cases (show v1 = V.int at_3 from hv1)
      obtain ⟨at_4, e_at_4⟩ : ∃ z, z = (at_3 + one1) := ⟨_, rfl⟩
      refine ss_setI 3 (Ev.eq (ev_add (ev_var (r := iR) 3 rfl rfl) (ev_var (r := iR) 7 rfl rfl)) e_at_4.symm) w (fun H10 w => ?_) nd
      show WSs _ _ _ [some v0, some (.int first1), some (.ref l1), some (.int at_4), some (.ref l3), none, none, some (.int one1), none, none, none, none, none] _
      refine ss_nil ?_
      refine ⟨_, _, (s5.trans s6), w, at_4, some (.int one1), vs4 ++ [.int at_3], (some_1 ++ [at_3]), rfl, rfl, h_some__8, ?_⟩
      show ((some_1 ++ [at_3]).length : Int) = ((i0 + 1) : Nat)
      exact (by /-step0.0-/ simp_all)
    · rintro F9 M1 H11 σ1 s7 w ⟨at_3, o_one, vs4, some_1, rfl, rfl, h_some__6, hI0⟩
      replace hI0 : (some_1.length : Int) = ((steps2).length : Nat) := hI0
      have h_script_8 := Mono.mono s7 h_script_5
      have h_steps_7 := Mono.mono s7 h_steps_4
      show WSs _ _ _ [some v0, some (.int first1), some (.ref l1), some (.int at_3), some (.ref l3), none, none, o_one, none, none, none, none, none] _
      refine ss_if (bx_l (bl_and (bx_eqI (ev_mod (ev_var (r := iR) 1 rfl rfl) ev_int) ev_int) fun g3 => (bl_one_and (bx_neT hr.units (ev_varT 2 rfl upd_same h_some__6) (Ev.rt (EvN.fz (en_lst (r := iR) ea_nilL))))))) w (fun cR1 H12 w => ?_) (fun cR1 H12 w => ?_)
      · have cN1 := cR1; try simp only [Bool.or_eq_true, Bool.or_eq_false_iff, Bool.and_eq_true, Bool.and_eq_false_imp, decide_eq_true_eq, decide_eq_false_iff_not, Bool.not_eq_true', Bool.not_eq_false', Bool.not_true, Bool.not_false, Int.not_lt, Int.not_le] at cN1
        obtain ⟨place1, e_place1⟩ : ∃ z, z = ((first1 / (140 : Int)) % ((some_1).length : Int)) := ⟨_, rfl⟩
        have hpl : 0 ≤ place1 ∧ place1 < (some_1).length := by have := List.length_pos_iff.mpr cN1.2; rw [e_place1]; exact ⟨Int.emod_nonneg _ (by omega), Int.emod_lt_of_pos _ (by omega)⟩
        refine ss_setI 8 (Ev.eq (ev_mod (ev_div (ev_var (r := iR) 1 rfl rfl) ev_int) (ev_len T.len_n (Ev.td (ev_varT 2 rfl upd_same h_some__6))) (by /-mod.0-/ have := List.length_pos_iff.mpr cN1.2; omega)) e_place1.symm) w (fun H13 w => ?_) nd
        show WSs _ _ _ [some v0, some (.int first1), some (.ref l1), some (.int at_3), some (.ref l3), none, none, o_one, some (.int place1), none, none, none, none] _
        obtain ⟨ahead1, e_ahead1⟩ : ∃ z, z = (gI some_1 (max (place1 - (1 : Int)) (0 : Int))) := ⟨_, rfl⟩
        refine ss_setI 9 (Ev.eq (ev_ix (Ev.td (ev_varT 2 rfl upd_same h_some__6)) (ev_max2 rfl T.max_n (ev_sub (ev_var (r := iR) 8 rfl rfl) ev_int) ev_int) (by /-ix.0-/ first | (constructor <;> omega) | (constructor <;> (simp <;> omega)))) e_ahead1.symm) w (fun H14 w => ?_) nd
        show WSs _ _ _ [some v0, some (.int first1), some (.ref l1), some (.int at_3), some (.ref l3), none, none, o_one, some (.int place1), some (.int ahead1), none, none, none] _
        refine ss_set 10 (EvN.fz (en_lst (r := iR) (ea_consL (ev_var (r := iR) 9 rfl rfl) (ea_consL (ev_sub (ev_var (r := iR) 9 rfl rfl) ev_int) (ea_consL (ev_neg ev_int) (ea_consL ev_int (ea_consL (ev_mod (ev_div (ev_var (r := iR) 1 rfl rfl) ev_int) (ev_pow ev_int ev_int) (by /-modb.0-/ decide)) (ea_consL (ev_sub ev_int (ev_mod (ev_div (ev_var (r := iR) 1 rfl rfl) ev_int) (ev_pow ev_int ev_int) (by /-modb.1-/ decide))) ea_nilL)))))))) w (fun F10 H15 v2 s8 w (h_odd_1 : (lR iR) F10 v2 ([ahead1, (ahead1 - (1 : Int)), (-(1 : Int)), (128 : Int), ((first1 / (7 : Int)) % ((10 : Int) ^ ((30 : Int)).toNat)), ((0 : Int) - ((first1 / (7 : Int)) % ((10 : Int) ^ ((30 : Int)).toNat)))])) => ?_) nd
        have h_script_9 := Mono.mono s8 h_script_8
        have h_steps_8 := Mono.mono s8 h_steps_7
        have h_some__9 := A2.up s8 h_some__6
        show WSs _ _ _ [some v0, some (.int first1), some (.ref l1), some (.int at_3), some (.ref l3), none, none, o_one, some (.int place1), some (.int ahead1), some v2, none, none] _
        refine ss_put (r := iR) 2 rfl upd_same h_some__9 (ev_ix (Ev.rd (ev_var 10 rfl h_odd_1)) (ev_mod (show EvF _ _ _ _ _ iR (cellAt script (1 : Int)) from ev_call (x := (script, (1 : Int), ())) (ok_cell_at T) (hr.mono (by decide)) T.g_cell_at T.F_cell_at.kp T.b_cell_at (ea_cons (r := (rsR K iR)) (ev_var 0 rfl h_script_9) (ea_cons (r := iR) ev_int ea_nil)) (by /-pre__law_cell_at.1-/ first | assumption | omega | simp_all)) ev_int) (by /-ix.1-/ first | (constructor <;> omega) | (constructor <;> (simp <;> omega)))) (ev_var (r := iR) 8 rfl rfl) w (by /-put0.0-/ omega) (by /-put1.0-/ omega) (fun F11 M2 H16 v3 s9 e2 w h_some__10 => ?_)
        have h_script_10 := Mono.mono s9 h_script_9
        have h_steps_9 := Mono.mono s9 h_steps_8
        have h_odd_2 := Mono.mono s9 h_odd_1
        have h_some__11 := A2.up s9 h_some__9
        subst e2
        replace w : Own F11 (upd M l1 (.lst (vs4.set (place1).toNat v3))) H16 := w.cast (upd_upd)
        refine ss_nil ?_
        show WSs _ _ _ [some v0, some (.int first1), some (.ref l1), some (.int at_3), some (.ref l3), none, none, o_one, some (.int place1), some (.int ahead1), some v2, none, none] _
        have s_F12 : Same F11 (upd F11 l1 (.lst (vs4.set (place1).toNat v3))) := same_new (w.d _ _ upd_same)
        replace w := w.fz1 (nn_l1)
        have h_script_11 := Mono.mono s_F12 h_script_10
        have h_steps_10 := Mono.mono s_F12 h_steps_9
        have h_odd_3 := Mono.mono s_F12 h_odd_2
        have h_some__12 : (lR iR) (upd F11 l1 (.lst (vs4.set (place1).toNat v3))) (.ref l1) (some_1.set (place1).toNat (gI ([ahead1, (ahead1 - (1 : Int)), (-(1 : Int)), (128 : Int), ((first1 / (7 : Int)) % ((10 : Int) ^ ((30 : Int)).toNat)), ((0 : Int) - ((first1 / (7 : Int)) % ((10 : Int) ^ ((30 : Int)).toNat)))]) ((cellAt script (1 : Int)) % (6 : Int)))) := ⟨_, _, rfl, upd_same, A2.up s_F12 h_some__10⟩
        show WSs _ _ _ [some v0, some (.int first1), some (.ref l1), some (.int at_3), some (.ref l3), none, none, o_one, some (.int place1), some (.int ahead1), some v2, none, none] _
        obtain ⟨handed1, e_handed1⟩ : ∃ z, z = (some_1.set (place1).toNat (gI ([ahead1, (ahead1 - (1 : Int)), (-(1 : Int)), (128 : Int), ((first1 / (7 : Int)) % ((10 : Int) ^ ((30 : Int)).toNat)), ((0 : Int) - ((first1 / (7 : Int)) % ((10 : Int) ^ ((30 : Int)).toNat)))]) ((cellAt script (1 : Int)) % (6 : Int)))) := ⟨_, rfl⟩
        refine ss_set 11 (Ev.eq (EvN.fz (en_list T.list_n (Ev.rd (ev_var 2 rfl h_some__12)))) e_handed1.symm) w (fun F13 H17 v4 s10 w (h_handed_1 : (lR iR) F13 v4 handed1) => ?_) nd
        have h_script_12 := Mono.mono s10 h_script_11
        have h_some__13 := Mono.mono s10 h_some__12
        have h_steps_11 := Mono.mono s10 h_steps_10
        have h_odd_4 := Mono.mono s10 h_odd_3
        show WSs _ _ _ [some v0, some (.int first1), some (.ref l1), some (.int at_3), some (.ref l3), none, none, o_one, some (.int place1), some (.int ahead1), some v2, some v4, none] _
        obtain ⟨found1, e_found1⟩ : ∃ z, z = (areKeys handed1) := ⟨_, rfl⟩
        refine ss_setB 12 (Ev.eq (show EvF _ _ _ _ _ bR (areKeys handed1) from ev_call (x := (handed1, ())) (ok_are_keys T) (hr.mono (by decide)) T.g_are_keys T.F_are_keys.kp T.b_are_keys (ea_cons (r := (lR iR)) (ev_var 11 rfl h_handed_1) ea_nil) (by /-pre_are_keys.0-/ trivial)) e_found1.symm) w (fun H18 w => ?_) nd
        show WSs _ _ _ [some v0, some (.int first1), some (.ref l1), some (.int at_3), some (.ref l3), none, none, o_one, some (.int place1), some (.int ahead1), some v2, some v4, some (.bl found1)] _
        refine ss_ret ((bx_l (bl_and (bx_isi (S := "bool") (S' := "bool") (k := true) T.isinstance_n T.bool_n (by decide +kernel) (ev_var (r := bR) 12 rfl rfl) (by decide +kernel)) fun g4 => (bl_and (bx_eqB (ev_var (r := bR) 12 rfl rfl) (show EvF _ _ _ _ _ bR (areKeys (some_1.set (place1).toNat (gI ([ahead1, (ahead1 - (1 : Int)), (-(1 : Int)), (128 : Int), ((first1 / (7 : Int)) % ((10 : Int) ^ ((30 : Int)).toNat)), ((0 : Int) - ((first1 / (7 : Int)) % ((10 : Int) ^ ((30 : Int)).toNat)))]) ((cellAt script (1 : Int)) % (6 : Int))))) from ev_call (x := ((some_1.set (place1).toNat (gI ([ahead1, (ahead1 - (1 : Int)), (-(1 : Int)), (128 : Int), ((first1 / (7 : Int)) % ((10 : Int) ^ ((30 : Int)).toNat)), ((0 : Int) - ((first1 / (7 : Int)) % ((10 : Int) ^ ((30 : Int)).toNat)))]) ((cellAt script (1 : Int)) % (6 : Int)))), ())) (ok_due T) (hr.mono (by decide)) T.g_due T.F_due.kp T.b_due (ea_cons (r := (lR iR)) (ev_var 2 rfl h_some__13) ea_nil) (by /-pre__law_due.0-/ trivial))) fun g5 => (bl_one_and (bx_eqT hr.units (Ev.rt (ev_var 11 rfl h_handed_1)) (Ev.rt (ev_var 2 rfl h_some__13)))))))).1 w (fun F14 H19 v5 s11 w (hv2 : bR F14 v5 (true && ((decide (found1 = (areKeys (some_1.set (place1).toNat (gI ([ahead1, (ahead1 - (1 : Int)), (-(1 : Int)), (128 : Int), ((first1 / (7 : Int)) % ((10 : Int) ^ ((30 : Int)).toNat)), ((0 : Int) - ((first1 / (7 : Int)) % ((10 : Int) ^ ((30 : Int)).toNat)))]) ((cellAt script (1 : Int)) % (6 : Int))))))) && (decide (handed1 = (some_1.set (place1).toNat (gI ([ahead1, (ahead1 - (1 : Int)), (-(1 : Int)), (128 : Int), ((first1 / (7 : Int)) % ((10 : Int) ^ ((30 : Int)).toNat)), ((0 : Int) - ((first1 / (7 : Int)) % ((10 : Int) ^ ((30 : Int)).toNat)))]) ((cellAt script (1 : Int)) % (6 : Int))))))))) => kk _ _ _ ((((((((((s1.trans s2).trans s_F3).trans s3).trans s_F5).trans s7).trans s8).trans s9).trans s_F12).trans s10).trans s11) (w.lessM (Same.refl _)) ?_)
        have hq : (true && ((decide (found1 = (areKeys (some_1.set (place1).toNat (gI ([ahead1, (ahead1 - (1 : Int)), (-(1 : Int)), (128 : Int), ((first1 / (7 : Int)) % ((10 : Int) ^ ((30 : Int)).toNat)), ((0 : Int) - ((first1 / (7 : Int)) % ((10 : Int) ^ ((30 : Int)).toNat)))]) ((cellAt script (1 : Int)) % (6 : Int))))))) && (decide (handed1 = (some_1.set (place1).toNat (gI ([ahead1, (ahead1 - (1 : Int)), (-(1 : Int)), (128 : Int), ((first1 / (7 : Int)) % ((10 : Int) ^ ((30 : Int)).toNat)), ((0 : Int) - ((first1 / (7 : Int)) % ((10 : Int) ^ ((30 : Int)).toNat)))]) ((cellAt script (1 : Int)) % (6 : Int)))))))) = true := (by /-ret.0-/ simp_all)
        show v5 = V.bl true
        rw [← hq]; exact hv2
      · have cN1 := cR1; try simp only [Bool.or_eq_true, Bool.or_eq_false_iff, Bool.and_eq_true, Bool.and_eq_false_imp, decide_eq_true_eq, decide_eq_false_iff_not, Bool.not_eq_true', Bool.not_eq_false', Bool.not_true, Bool.not_false, Int.not_lt, Int.not_le] at cN1
        refine ss_nil ?_
        show WSs _ _ _ [some v0, some (.int first1), some (.ref l1), some (.int at_3), some (.ref l3), none, none, o_one, none, none, none, none, none] _
        have s_F15 : Same F9 (upd F9 l1 (.lst vs4)) := same_new (w.d _ _ upd_same)
        replace w := w.fz1 (nn_l1)
        have h_script_13 := Mono.mono s_F15 h_script_8
        have h_steps_12 := Mono.mono s_F15 h_steps_7
        have h_some__14 : (lR iR) (upd F9 l1 (.lst vs4)) (.ref l1) some_1 := ⟨_, _, rfl, upd_same, A2.up s_F15 h_some__6⟩
        show WSs _ _ _ [some v0, some (.int first1), some (.ref l1), some (.int at_3), some (.ref l3), none, none, o_one, none, none, none, none, none] _
        refine ss_set 11 (EvN.fz (en_list T.list_n (Ev.rd (ev_var 2 rfl h_some__14)))) w (fun F16 H20 v6 s12 w (h_handed_2 : (lR iR) F16 v6 some_1) => ?_) nd
        have h_script_14 := Mono.mono s12 h_script_13
        have h_some__15 := Mono.mono s12 h_some__14
        have h_steps_13 := Mono.mono s12 h_steps_12
        show WSs _ _ _ [some v0, some (.int first1), some (.ref l1), some (.int at_3), some (.ref l3), none, none, o_one, none, none, none, some v6, none] _
        obtain ⟨found2, e_found2⟩ : ∃ z, z = (areKeys some_1) := ⟨_, rfl⟩
        refine ss_setB 12 (Ev.eq (show EvF _ _ _ _ _ bR (areKeys some_1) from ev_call (x := (some_1, ())) (ok_are_keys T) (hr.mono (by decide)) T.g_are_keys T.F_are_keys.kp T.b_are_keys (ea_cons (r := (lR iR)) (ev_var 11 rfl h_handed_2) ea_nil) (by /-pre_are_keys.0-/ trivial)) e_found2.symm) w (fun H21 w => ?_) nd
        show WSs _ _ _ [some v0, some (.int first1), some (.ref l1), some (.int at_3), some (.ref l3), none, none, o_one, none, none, none, some v6, some (.bl found2)] _
        refine ss_ret ((bx_l (bl_and (bx_isi (S := "bool") (S' := "bool") (k := true) T.isinstance_n T.bool_n (by decide +kernel) (ev_var (r := bR) 12 rfl rfl) (by decide +kernel)) fun g6 => (bl_and (bx_eqB (ev_var (r := bR) 12 rfl rfl) (show EvF _ _ _ _ _ bR (areKeys some_1) from ev_call (x := (some_1, ())) (ok_due T) (hr.mono (by decide)) T.g_due T.F_due.kp T.b_due (ea_cons (r := (lR iR)) (ev_var 2 rfl h_some__15) ea_nil) (by /-pre__law_due.0-/ trivial))) fun g7 => (bl_one_and (bx_eqT hr.units (Ev.rt (ev_var 11 rfl h_handed_2)) (Ev.rt (ev_var 2 rfl h_some__15)))))))).1 w (fun F17 H22 v7 s13 w (hv3 : bR F17 v7 (true && ((decide (found2 = (areKeys some_1))) && (decide (some_1 = some_1))))) => kk _ _ _ ((((((((s1.trans s2).trans s_F3).trans s3).trans s_F5).trans s7).trans s_F15).trans s12).trans s13) (w.lessM (Same.refl _)) ?_)
        have hq : (true && ((decide (found2 = (areKeys some_1))) && (decide (some_1 = some_1)))) = true := (by /-ret.1-/ simp_all)
        show v7 = V.bl true
        rw [← hq]; exact hv3
  · have cN0 := cR0; try simp only [Bool.or_eq_true, Bool.or_eq_false_iff, Bool.and_eq_true, Bool.and_eq_false_imp, decide_eq_true_eq, decide_eq_false_iff_not, Bool.not_eq_true', Bool.not_eq_false', Bool.not_true, Bool.not_false, Int.not_lt, Int.not_le] at cN0
    refine ss_nil ?_
    show WSs _ _ _ [some v0, some (.int first1), some (.ref l1), some (.int at_1), some (.ref l2), none, none, none, none, none, none, none, none] _
    refine ss_for 7 (ei_list (r := iR) (Ev.rs (ev_var 4 rfl h_steps_2))) w (fun i F1 M1 σ1 => ∃ (at_5 : Int) (o_one : Option V) (vs5 : List V) (some_2 : List Int), σ1 = [some v0, some (.int first1), some (.ref l1), some (.int at_5), some (.ref l2), none, none, o_one, none, none, none, none, none] ∧ (upd M l1 (.lst vs5)) = M1 ∧ A2 (iR F1) vs5 some_2 ∧ ((some_2.length : Int) = (i : Nat))) (fun F1 s1 => ?_) ?_ ?_ ?_ PassesOwn.never nd
    · refine ⟨at_1, none, vs1, ([] : List Int), rfl, rfl, A2.up s1 h_some__3, ?_⟩
      show (([] : List Int).length : Int) = (0 : Nat)
      exact (by /-init0-/ simp)
    · rintro i F1 F2 M1 σ1 s1 ⟨at_5, o_one, vs5, some_2, e1, e2, z0, hI⟩
      exact ⟨at_5, o_one, vs5, some_2, e1, e2, A2.up s1 z0, hI⟩
    · rintro F18 i0 one2 v_one2 F19 M1 H23 σ1 s14 hx0 ⟨at_5, o_one, vs5, some_2, rfl, rfl, h_some__16, hI0⟩ s15 w h_one_2
      replace hI0 : (some_2.length : Int) = (i0 : Nat) := hI0
      have h_script_15 := Mono.mono (s14.trans s15) h_script_3
      have h_steps_14 := Mono.mono (s14.trans s15) h_steps_2
      cases (show v_one2 = V.int one2 from h_one_2)
      have hl0 := (List.getElem?_eq_some_iff.mp hx0).1
      show WSs _ _ _ [some v0, some (.int first1), some (.ref l1), some (.int at_5), some (.ref l2), none, none, some (.int one2), none, none, none, none, none] _
      refine ss_append (r := iR) 2 rfl upd_same (ev_var (r := iR) 3 rfl rfl) w (by /-app.0-/ have := (h_some__16).len; omega) (fun F20 M2 H24 v8 s16 e2 w hv4 => ?_)
      have h_script_16 := Mono.mono s16 h_script_15
      have h_steps_15 := Mono.mono s16 h_steps_14
      have h_some__17 := A2.up s16 h_some__16
      have h_some__18 := A2.push h_some__17 hv4
      subst e2
      replace w : Own F20 (upd M l1 (.lst (vs5 ++ [v8]))) H24 := w.cast (upd_upd)
      cases (show v8 = V.int at_5 from hv4)
      obtain ⟨at_6, e_at_6⟩ : ∃ z, z = (at_5 + one2) := ⟨_, rfl⟩
      refine ss_setI 3 (Ev.eq (ev_add (ev_var (r := iR) 3 rfl rfl) (ev_var (r := iR) 7 rfl rfl)) e_at_6.symm) w (fun H25 w => ?_) nd
      show WSs _ _ _ [some v0, some (.int first1), some (.ref l1), some (.int at_6), some (.ref l2), none, none, some (.int one2), none, none, none, none, none] _
      refine ss_nil ?_
      refine ⟨_, _, (s15.trans s16), w, at_6, some (.int one2), vs5 ++ [.int at_5], (some_2 ++ [at_5]), rfl, rfl, h_some__18, ?_⟩
      show ((some_2 ++ [at_5]).length : Int) = ((i0 + 1) : Nat)
      exact (by /-step0.1-/ simp_all)
    · rintro F21 M1 H26 σ1 s17 w ⟨at_5, o_one, vs5, some_2, rfl, rfl, h_some__16, hI0⟩
      replace hI0 : (some_2.length : Int) = ((steps1).length : Nat) := hI0
      have h_script_17 := Mono.mono s17 h_script_3
      have h_steps_16 := Mono.mono s17 h_steps_2
      show WSs _ _ _ [some v0, some (.int first1), some (.ref l1), some (.int at_5), some (.ref l2), none, none, o_one, none, none, none, none, none] _
      refine ss_if (bx_l (bl_and (bx_eqI (ev_mod (ev_var (r := iR) 1 rfl rfl) ev_int) ev_int) fun g8 => (bl_one_and (bx_neT hr.units (ev_varT 2 rfl upd_same h_some__16) (Ev.rt (EvN.fz (en_lst (r := iR) ea_nilL))))))) w (fun cR1 H27 w => ?_) (fun cR1 H27 w => ?_)
      · have cN1 := cR1; try simp only [Bool.or_eq_true, Bool.or_eq_false_iff, Bool.and_eq_true, Bool.and_eq_false_imp, decide_eq_true_eq, decide_eq_false_iff_not, Bool.not_eq_true', Bool.not_eq_false', Bool.not_true, Bool.not_false, Int.not_lt, Int.not_le] at cN1
        obtain ⟨place2, e_place2⟩ : ∃ z, z = ((first1 / (140 : Int)) % ((some_2).length : Int)) := ⟨_, rfl⟩
        have hpl : 0 ≤ place2 ∧ place2 < (some_2).length := by have := List.length_pos_iff.mpr cN1.2; rw [e_place2]; exact ⟨Int.emod_nonneg _ (by omega), Int.emod_lt_of_pos _ (by omega)⟩
        refine ss_setI 8 (Ev.eq (ev_mod (ev_div (ev_var (r := iR) 1 rfl rfl) ev_int) (ev_len T.len_n (Ev.td (ev_varT 2 rfl upd_same h_some__16))) (by /-mod.0-/ have := List.length_pos_iff.mpr cN1.2; omega)) e_place2.symm) w (fun H28 w => ?_) nd
        show WSs _ _ _ [some v0, some (.int first1), some (.ref l1), some (.int at_5), some (.ref l2), none, none, o_one, some (.int place2), none, none, none, none] _
        obtain ⟨ahead2, e_ahead2⟩ : ∃ z, z = (gI some_2 (max (place2 - (1 : Int)) (0 : Int))) := ⟨_, rfl⟩
        refine ss_setI 9 (Ev.eq (ev_ix (Ev.td (ev_varT 2 rfl upd_same h_some__16)) (ev_max2 rfl T.max_n (ev_sub (ev_var (r := iR) 8 rfl rfl) ev_int) ev_int) (by /-ix.0-/ first | (constructor <;> omega) | (constructor <;> (simp <;> omega)))) e_ahead2.symm) w (fun H29 w => ?_) nd
        show WSs _ _ _ [some v0, some (.int first1), some (.ref l1), some (.int at_5), some (.ref l2), none, none, o_one, some (.int place2), some (.int ahead2), none, none, none] _
        refine ss_set 10 (EvN.fz (en_lst (r := iR) (ea_consL (ev_var (r := iR) 9 rfl rfl) (ea_consL (ev_sub (ev_var (r := iR) 9 rfl rfl) ev_int) (ea_consL (ev_neg ev_int) (ea_consL ev_int (ea_consL (ev_mod (ev_div (ev_var (r := iR) 1 rfl rfl) ev_int) (ev_pow ev_int ev_int) (by /-modb.0-/ decide)) (ea_consL (ev_sub ev_int (ev_mod (ev_div (ev_var (r := iR) 1 rfl rfl) ev_int) (ev_pow ev_int ev_int) (by /-modb.1-/ decide))) ea_nilL)))))))) w (fun F22 H30 v9 s18 w (h_odd_5 : (lR iR) F22 v9 ([ahead2, (ahead2 - (1 : Int)), (-(1 : Int)), (128 : Int), ((first1 / (7 : Int)) % ((10 : Int) ^ ((30 : Int)).toNat)), ((0 : Int) - ((first1 / (7 : Int)) % ((10 : Int) ^ ((30 : Int)).toNat)))])) => ?_) nd
        have h_script_18 := Mono.mono s18 h_script_17
        have h_steps_17 := Mono.mono s18 h_steps_16
        have h_some__19 := A2.up s18 h_some__16
        show WSs _ _ _ [some v0, some (.int first1), some (.ref l1), some (.int at_5), some (.ref l2), none, none, o_one, some (.int place2), some (.int ahead2), some v9, none, none] _
        refine ss_put (r := iR) 2 rfl upd_same h_some__19 (ev_ix (Ev.rd (ev_var 10 rfl h_odd_5)) (ev_mod (show EvF _ _ _ _ _ iR (cellAt script (1 : Int)) from ev_call (x := (script, (1 : Int), ())) (ok_cell_at T) (hr.mono (by decide)) T.g_cell_at T.F_cell_at.kp T.b_cell_at (ea_cons (r := (rsR K iR)) (ev_var 0 rfl h_script_18) (ea_cons (r := iR) ev_int ea_nil)) (by /-pre__law_cell_at.1-/ first | assumption | omega | simp_all)) ev_int) (by /-ix.1-/ first | (constructor <;> omega) | (constructor <;> (simp <;> omega)))) (ev_var (r := iR) 8 rfl rfl) w (by /-put0.0-/ omega) (by /-put1.0-/ omega) (fun F23 M2 H31 v10 s19 e2 w h_some__20 => ?_)
        have h_script_19 := Mono.mono s19 h_script_18
        have h_steps_18 := Mono.mono s19 h_steps_17
        have h_odd_6 := Mono.mono s19 h_odd_5
        have h_some__21 := A2.up s19 h_some__19
        subst e2
        replace w : Own F23 (upd M l1 (.lst (vs5.set (place2).toNat v10))) H31 := w.cast (upd_upd)
        refine ss_nil ?_
        show WSs _ _ _ [some v0, some (.int first1), some (.ref l1), some (.int at_5), some (.ref l2), none, none, o_one, some (.int place2), some (.int ahead2), some v9, none, none] _
        have s_F24 : Same F23 (upd F23 l1 (.lst (vs5.set (place2).toNat v10))) := same_new (w.d _ _ upd_same)
        replace w := w.fz1 (nn_l1)
        have h_script_20 := Mono.mono s_F24 h_script_19
        have h_steps_19 := Mono.mono s_F24 h_steps_18
        have h_odd_7 := Mono.mono s_F24 h_odd_6
        have h_some__22 : (lR iR) (upd F23 l1 (.lst (vs5.set (place2).toNat v10))) (.ref l1) (some_2.set (place2).toNat (gI ([ahead2, (ahead2 - (1 : Int)), (-(1 : Int)), (128 : Int), ((first1 / (7 : Int)) % ((10 : Int) ^ ((30 : Int)).toNat)), ((0 : Int) - ((first1 / (7 : Int)) % ((10 : Int) ^ ((30 : Int)).toNat)))]) ((cellAt script (1 : Int)) % (6 : Int)))) := ⟨_, _, rfl, upd_same, A2.up s_F24 h_some__20⟩
        show WSs _ _ _ [some v0, some (.int first1), some (.ref l1), some (.int at_5), some (.ref l2), none, none, o_one, some (.int place2), some (.int ahead2), some v9, none, none] _
        obtain ⟨handed2, e_handed2⟩ : ∃ z, z = (some_2.set (place2).toNat (gI ([ahead2, (ahead2 - (1 : Int)), (-(1 : Int)), (128 : Int), ((first1 / (7 : Int)) % ((10 : Int) ^ ((30 : Int)).toNat)), ((0 : Int) - ((first1 / (7 : Int)) % ((10 : Int) ^ ((30 : Int)).toNat)))]) ((cellAt script (1 : Int)) % (6 : Int)))) := ⟨_, rfl⟩
        refine ss_set 11 (Ev.eq (EvN.fz (en_list T.list_n (Ev.rd (ev_var 2 rfl h_some__22)))) e_handed2.symm) w (fun F25 H32 v11 s20 w (h_handed_3 : (lR iR) F25 v11 handed2) => ?_) nd
        have h_script_21 := Mono.mono s20 h_script_20
        have h_some__23 := Mono.mono s20 h_some__22
        have h_steps_20 := Mono.mono s20 h_steps_19
        have h_odd_8 := Mono.mono s20 h_odd_7
        show WSs _ _ _ [some v0, some (.int first1), some (.ref l1), some (.int at_5), some (.ref l2), none, none, o_one, some (.int place2), some (.int ahead2), some v9, some v11, none] _
        obtain ⟨found3, e_found3⟩ : ∃ z, z = (areKeys handed2) := ⟨_, rfl⟩
        refine ss_setB 12 (Ev.eq (show EvF _ _ _ _ _ bR (areKeys handed2) from ev_call (x := (handed2, ())) (ok_are_keys T) (hr.mono (by decide)) T.g_are_keys T.F_are_keys.kp T.b_are_keys (ea_cons (r := (lR iR)) (ev_var 11 rfl h_handed_3) ea_nil) (by /-pre_are_keys.0-/ trivial)) e_found3.symm) w (fun H33 w => ?_) nd
        show WSs _ _ _ [some v0, some (.int first1), some (.ref l1), some (.int at_5), some (.ref l2), none, none, o_one, some (.int place2), some (.int ahead2), some v9, some v11, some (.bl found3)] _
        refine ss_ret ((bx_l (bl_and (bx_isi (S := "bool") (S' := "bool") (k := true) T.isinstance_n T.bool_n (by decide +kernel) (ev_var (r := bR) 12 rfl rfl) (by decide +kernel)) fun g9 => (bl_and (bx_eqB (ev_var (r := bR) 12 rfl rfl) (show EvF _ _ _ _ _ bR (areKeys (some_2.set (place2).toNat (gI ([ahead2, (ahead2 - (1 : Int)), (-(1 : Int)), (128 : Int), ((first1 / (7 : Int)) % ((10 : Int) ^ ((30 : Int)).toNat)), ((0 : Int) - ((first1 / (7 : Int)) % ((10 : Int) ^ ((30 : Int)).toNat)))]) ((cellAt script (1 : Int)) % (6 : Int))))) from ev_call (x := ((some_2.set (place2).toNat (gI ([ahead2, (ahead2 - (1 : Int)), (-(1 : Int)), (128 : Int), ((first1 / (7 : Int)) % ((10 : Int) ^ ((30 : Int)).toNat)), ((0 : Int) - ((first1 / (7 : Int)) % ((10 : Int) ^ ((30 : Int)).toNat)))]) ((cellAt script (1 : Int)) % (6 : Int)))), ())) (ok_due T) (hr.mono (by decide)) T.g_due T.F_due.kp T.b_due (ea_cons (r := (lR iR)) (ev_var 2 rfl h_some__23) ea_nil) (by /-pre__law_due.0-/ trivial))) fun g10 => (bl_one_and (bx_eqT hr.units (Ev.rt (ev_var 11 rfl h_handed_3)) (Ev.rt (ev_var 2 rfl h_some__23)))))))).1 w (fun F26 H34 v12 s21 w (hv5 : bR F26 v12 (true && ((decide (found3 = (areKeys (some_2.set (place2).toNat (gI ([ahead2, (ahead2 - (1 : Int)), (-(1 : Int)), (128 : Int), ((first1 / (7 : Int)) % ((10 : Int) ^ ((30 : Int)).toNat)), ((0 : Int) - ((first1 / (7 : Int)) % ((10 : Int) ^ ((30 : Int)).toNat)))]) ((cellAt script (1 : Int)) % (6 : Int))))))) && (decide (handed2 = (some_2.set (place2).toNat (gI ([ahead2, (ahead2 - (1 : Int)), (-(1 : Int)), (128 : Int), ((first1 / (7 : Int)) % ((10 : Int) ^ ((30 : Int)).toNat)), ((0 : Int) - ((first1 / (7 : Int)) % ((10 : Int) ^ ((30 : Int)).toNat)))]) ((cellAt script (1 : Int)) % (6 : Int))))))))) => kk _ _ _ ((((((((s1.trans s2).trans s_F3).trans s17).trans s18).trans s19).trans s_F24).trans s20).trans s21) (w.lessM (Same.refl _)) ?_)
        have hq : (true && ((decide (found3 = (areKeys (some_2.set (place2).toNat (gI ([ahead2, (ahead2 - (1 : Int)), (-(1 : Int)), (128 : Int), ((first1 / (7 : Int)) % ((10 : Int) ^ ((30 : Int)).toNat)), ((0 : Int) - ((first1 / (7 : Int)) % ((10 : Int) ^ ((30 : Int)).toNat)))]) ((cellAt script (1 : Int)) % (6 : Int))))))) && (decide (handed2 = (some_2.set (place2).toNat (gI ([ahead2, (ahead2 - (1 : Int)), (-(1 : Int)), (128 : Int), ((first1 / (7 : Int)) % ((10 : Int) ^ ((30 : Int)).toNat)), ((0 : Int) - ((first1 / (7 : Int)) % ((10 : Int) ^ ((30 : Int)).toNat)))]) ((cellAt script (1 : Int)) % (6 : Int)))))))) = true := (by /-ret.2-/ simp_all)
        show v12 = V.bl true
        rw [← hq]; exact hv5
      · have cN1 := cR1; try simp only [Bool.or_eq_true, Bool.or_eq_false_iff, Bool.and_eq_true, Bool.and_eq_false_imp, decide_eq_true_eq, decide_eq_false_iff_not, Bool.not_eq_true', Bool.not_eq_false', Bool.not_true, Bool.not_false, Int.not_lt, Int.not_le] at cN1
        refine ss_nil ?_
        show WSs _ _ _ [some v0, some (.int first1), some (.ref l1), some (.int at_5), some (.ref l2), none, none, o_one, none, none, none, none, none] _
        have s_F27 : Same F21 (upd F21 l1 (.lst vs5)) := same_new (w.d _ _ upd_same)
        replace w := w.fz1 (nn_l1)
        have h_script_22 := Mono.mono s_F27 h_script_17
        have h_steps_21 := Mono.mono s_F27 h_steps_16
        have h_some__24 : (lR iR) (upd F21 l1 (.lst vs5)) (.ref l1) some_2 := ⟨_, _, rfl, upd_same, A2.up s_F27 h_some__16⟩
        show WSs _ _ _ [some v0, some (.int first1), some (.ref l1), some (.int at_5), some (.ref l2), none, none, o_one, none, none, none, none, none] _
        refine ss_set 11 (EvN.fz (en_list T.list_n (Ev.rd (ev_var 2 rfl h_some__24)))) w (fun F28 H35 v13 s22 w (h_handed_4 : (lR iR) F28 v13 some_2) => ?_) nd
        have h_script_23 := Mono.mono s22 h_script_22
        have h_some__25 := Mono.mono s22 h_some__24
        have h_steps_22 := Mono.mono s22 h_steps_21
        show WSs _ _ _ [some v0, some (.int first1), some (.ref l1), some (.int at_5), some (.ref l2), none, none, o_one, none, none, none, some v13, none] _
        obtain ⟨found4, e_found4⟩ : ∃ z, z = (areKeys some_2) := ⟨_, rfl⟩
        refine ss_setB 12 (Ev.eq (show EvF _ _ _ _ _ bR (areKeys some_2) from ev_call (x := (some_2, ())) (ok_are_keys T) (hr.mono (by decide)) T.g_are_keys T.F_are_keys.kp T.b_are_keys (ea_cons (r := (lR iR)) (ev_var 11 rfl h_handed_4) ea_nil) (by /-pre_are_keys.0-/ trivial)) e_found4.symm) w (fun H36 w => ?_) nd
        show WSs _ _ _ [some v0, some (.int first1), some (.ref l1), some (.int at_5), some (.ref l2), none, none, o_one, none, none, none, some v13, some (.bl found4)] _
        refine ss_ret ((bx_l (bl_and (bx_isi (S := "bool") (S' := "bool") (k := true) T.isinstance_n T.bool_n (by decide +kernel) (ev_var (r := bR) 12 rfl rfl) (by decide +kernel)) fun g11 => (bl_and (bx_eqB (ev_var (r := bR) 12 rfl rfl) (show EvF _ _ _ _ _ bR (areKeys some_2) from ev_call (x := (some_2, ())) (ok_due T) (hr.mono (by decide)) T.g_due T.F_due.kp T.b_due (ea_cons (r := (lR iR)) (ev_var 2 rfl h_some__25) ea_nil) (by /-pre__law_due.0-/ trivial))) fun g12 => (bl_one_and (bx_eqT hr.units (Ev.rt (ev_var 11 rfl h_handed_4)) (Ev.rt (ev_var 2 rfl h_some__25)))))))).1 w (fun F29 H37 v14 s23 w (hv6 : bR F29 v14 (true && ((decide (found4 = (areKeys some_2))) && (decide (some_2 = some_2))))) => kk _ _ _ ((((((s1.trans s2).trans s_F3).trans s17).trans s_F27).trans s22).trans s23) (w.lessM (Same.refl _)) ?_)
        have hq : (true && ((decide (found4 = (areKeys some_2))) && (decide (some_2 = some_2)))) = true := (by /-ret.3-/ simp_all)
        show v14 = V.bl true
        rw [← hq]; exact hv6
end
theorem all_mk {l : PySem.W.OpenLaw} {w : World} {K : PySem.W.Frag} {h : Heap} {mg : Str → Option Value} {fa : Addr} (X : K.In h) (G : h.Ns mainGlobals mg) (hfa : mg "law" = some (.ref fa))
    {f0 f1 f2 f3 : Addr}
    {od0 an0 : Option Addr} {sl0 : Array (Option Value)} {oc0 kV0 dc0 pm0 cd0 ct0 : Value}
    {od1 an1 : Option Addr} {sl1 : Array (Option Value)} {oc1 kV1 dc1 pm1 cd1 ct1 : Value}
    {od2 an2 : Option Addr} {sl2 : Array (Option Value)} {oc2 kV2 dc2 pm2 cd2 ct2 : Value}
    {od3 an3 : Option Addr} {sl3 : Array (Option Value)} {oc3 kV3 dc3 pm3 cd3 ct3 : Value}
    (a0 : PySem.W.nsIn K mainGlobals "_law_cell_at" = some (some (.ref f0))) (l0 : K.lookup f0 = some ⟨oc0, od0, .func (PySem.W.fnOf "_law_cell_at" "_law_cell_at" (defArgs s_cell_at) (defBody s_cell_at) (defScope s_cell_at) .none kV0 dc0 pm0 an0 cd0 ct0), sl0⟩) (c0 : PySem.W.codeIn K cd0 "_law_cell_at" = true) (k0 : PySem.W.keepIn K (.ref f0) = true)
    (a1 : PySem.W.nsIn K mainGlobals "are_keys" = some (some (.ref f1))) (l1 : K.lookup f1 = some ⟨oc1, od1, .func (PySem.W.fnOf "are_keys" "are_keys" (defArgs s_are_keys) (defBody s_are_keys) (defScope s_are_keys) .none kV1 dc1 pm1 an1 cd1 ct1), sl1⟩) (c1 : PySem.W.codeIn K cd1 "are_keys" = true) (k1 : PySem.W.keepIn K (.ref f1) = true)
    (a2 : PySem.W.nsIn K mainGlobals "_law_due" = some (some (.ref f2))) (l2 : K.lookup f2 = some ⟨oc2, od2, .func (PySem.W.fnOf "_law_due" "_law_due" (defArgs s_due) (defBody s_due) (defScope s_due) .none kV2 dc2 pm2 an2 cd2 ct2), sl2⟩) (c2 : PySem.W.codeIn K cd2 "_law_due" = true) (k2 : PySem.W.keepIn K (.ref f2) = true)
    (a3 : PySem.W.nsIn K mainGlobals "law" = some (some (.ref f3))) (l3 : K.lookup f3 = some ⟨oc3, od3, .func (PySem.W.fnOf "law" "law" (defArgs s_law) (defBody s_law) (defScope s_law) .none kV3 dc3 pm3 an3 cd3 ct3), sl3⟩) (c3 : PySem.W.codeIn K cd3 "law" = true) (k3 : PySem.W.keepIn K (.ref f3) = true)
    (z_bool : PySem.W.nsIn K mainGlobals "bool" = some none)
    (z_isinstance : PySem.W.nsIn K mainGlobals "isinstance" = some none)
    (z_len : PySem.W.nsIn K mainGlobals "len" = some none)
    (z_list : PySem.W.nsIn K mainGlobals "list" = some none)
    (z_max : PySem.W.nsIn K mainGlobals "max" = some none)
    (z_range : PySem.W.nsIn K mainGlobals "range" = some none)
    {t_MOST : Tok} (y_MOST : PySem.W.nsIn K mainGlobals "MOST" = some (some (.int 40 t_MOST)))
    {t_HIGHEST : Tok} (y_HIGHEST : PySem.W.nsIn K mainGlobals "HIGHEST" = some (some (.int 127 t_HIGHEST)))
    : ∃ fd : FuncData, (∀ (s : Shared) (v : Value), BindsTo s fd ⟨[v], []⟩ [("_law_script", v)]) ∧ ∀ base : Heap, K.In base → base.Ns mainGlobals mg → FnOk l.prog w K mg base CX0 2 fa fd ["_law_script"] (spLaw K) := by
  have e := hfa.symm.trans (PySem.W.mg_of X G a3)
  cases e
  have F0 := fun_mk (st := s_cell_at) l0 c0 k0
  have b0 := F0.binds (ps := ["_law_script", "_law_k"]) fun _ _ _ _ _ _ us hl => match us, hl with | [_, _], _ => rfl
  have F1 := fun_mk (st := s_are_keys) l1 c1 k1
  have b1 := F1.binds (ps := ["some"]) fun _ _ _ _ _ _ us hl => match us, hl with | [_], _ => rfl
  have F2 := fun_mk (st := s_due) l2 c2 k2
  have b2 := F2.binds (ps := ["_law_some"]) fun _ _ _ _ _ _ us hl => match us, hl with | [_], _ => rfl
  have F3 := fun_mk (st := s_law) l3 c3 k3
  have b3 := F3.binds (ps := ["_law_script"]) fun _ _ _ _ _ _ us hl => match us, hl with | [_], _ => rfl
  have T : Txt K mg ⟨_, _, _, _, _, _, _, _⟩ := ⟨F0, PySem.W.mg_of X G a0, b0, F1, PySem.W.mg_of X G a1, b1, F2, PySem.W.mg_of X G a2, b2, F3, PySem.W.mg_of X G a3, b3, PySem.W.mg_none_of X G z_bool, PySem.W.mg_none_of X G z_isinstance, PySem.W.mg_none_of X G z_len, PySem.W.mg_none_of X G z_list, PySem.W.mg_none_of X G z_max, PySem.W.mg_none_of X G z_range, ⟨_, PySem.W.mg_of X G y_MOST⟩, ⟨_, PySem.W.mg_of X G y_HIGHEST⟩⟩
  exact ⟨_, fun s v => .of_eq rfl, fun base _ _ => ok_law T⟩
theorem walk {l : PySem.W.OpenLaw} {q : Program} {loose : List Str} {XP : (Str → Option Value) → Heap → Prop} {YP : World → Heap → Prop} {d : DefRec} {K : Params → PySem.W.Frag} (hn : l.most = some 63) (hdf : d.params.defaults = [])
    (hY : ∀ (w : World) (h : Heap), YP w h → (K w.params).In h)
    (F : ∀ (w : World) (mg : Str → Option Value) (fa : Addr) (h : Heap), (K w.params).In h → h.Ns mainGlobals mg → mg d.name = some (.ref fa) →
      ∃ fd : FuncData, (∀ (s : Shared) (u : Value), BindsTo s fd ⟨[u], []⟩ [("_law_script", u)]) ∧ ∀ base : Heap, (K w.params).In base → base.Ns mainGlobals mg → FnOk l.prog w (K w.params) mg base CX0 2 fa fd ["_law_script"] (spLaw (K w.params))) :
    PySem.W.WalkO q loose XP YP l.row.toRowW d [] (fun f vs => PySem.call f vs) :=
  L2.walk_of (n := 63) (k := 2) (x := "_law_script") (CX := fun _ => CX0) (sp := fun w => spLaw (K w.params)) hn (by decide) hdf ⟨rfl, by decide, by decide⟩ hY F
    (fun _ H a ns hl _ hS => ⟨H, fun _ => none, (ns, ()), ⟨_, _, rfl, ⟨a, _, rfl, hS, A2.mapI V.int ns⟩, rfl⟩, hl, ⟨Same.refl H, fun _ _ e => (nomatch e), fun _ _ e => (nomatch e)⟩, fun _ _ _ _ _ h => h⟩) fun _ _ _ _ _ z => z
end Q
open PySem PySem.W PyProof.Rows in
set_option maxRecDepth 100000 in
set_option maxHeartbeats 0 in
theorem PySem.Challenge.cw_pinbarrel_k01_keys_holds : PySem.Challenge.rw_pinbarrel_k01_keys.Holds := by
  w_on; o_law; k_head; (case hw => w_witness2)
  k_fill
  refine Q.walk (l := PySem.Challenge.rw_pinbarrel_k01_keys) rfl rfl (fun w h Y => PySem.W.kIn_of Y) ?F
  case F =>
    intro w mg fa h KX G hmg
    refine' Q.all_mk KX G hmg ?a0 ?l0 ?c0 ?k0 ?a1 ?l1 ?c1 ?k1 ?a2 ?l2 ?c2 ?k2 ?a3 ?l3 ?c3 ?k3 ?z_bool ?z_isinstance ?z_len ?z_list ?z_max ?z_range ?y_MOST ?y_HIGHEST
    (case a0 => k_is)
    (case l0 => k_is)
    (case c0 => k_is)
    (case k0 => k_is)
    (case a1 => k_is)
    (case l1 => k_is)
    (case c1 => k_is)
    (case k1 => k_is)
    (case a2 => k_is)
    (case l2 => k_is)
    (case c2 => k_is)
    (case k2 => k_is)
    (case a3 => k_is)
    (case l3 => k_is)
    (case c3 => k_is)
    (case k3 => k_is)
    (case z_bool => k_is)
    (case z_isinstance => k_is)
    (case z_len => k_is)
    (case z_list => k_is)
    (case z_max => k_is)
    (case z_range => k_is)
    (case y_MOST => k_is)
    (case y_HIGHEST => k_is)
