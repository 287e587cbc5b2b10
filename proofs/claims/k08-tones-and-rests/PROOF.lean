import PyProof.Rows.All
import Wide.All
import OpenK.AllK
import Wide.FinOn
import HandS.ForMost
import HandS.IsInst
import HandS.SortInts
import HandS.Style
import HandS.NamedTupSort
import HandS.SetFor
import HandS.Strs
import HandS.SortKw
import KE.DatumOrd
import HandS.NoneIn
import HandS.WordsDict
import HandS.ExcInit
import HandS.ExcOwn
import HandS.TryOnly
import HandS.WordsExc
import HandS.Iter
import HandS.SortOrd
import HandS.Conv
import HandS.TupLen
import HandS.ExcIs
import HandS.ExcField
import HandS.HotCalls
import PySem.Challenge.RW_pinbarrel_k08_tones_and_rests
set_option Elab.async false
set_option linter.all false
set_option maxRecDepth 100000
set_option maxHeartbeats 8000000
namespace Y
open PySem PySem.Spec PyProof.Rows L2

/-! ### canonical readings: what a piece of syntax does, as the machine has it -/
section
variable {X : Cx}
def WE (X : Cx) (e : Expr) : TE := fun σ H Q => ∀ (pins : List (Addr × Obj)) (s : Shared), Inv X pins σ H s → wpAny (model X.prog X.w) X.A (eval e X.env) (EP X pins σ Q) X.xe s
def WT (X : Cx) (e : Expr) : TT := fun σ H Q => ∀ (pins : List (Addr × Obj)) (s : Shared), Inv X pins σ H s → wpAny (model X.prog X.w) X.A (isTrue e X.env (eval e X.env)) (TP X pins σ Q) X.xe s
def WW (X : Cx) (e : Expr) : TT := fun σ H Q => ∀ (whole : Sem Value) (pins : List (Addr × Obj)) (s : Shared), Inv X pins σ H s → wpAny (model X.prog X.w) X.A (isTrue e X.env whole) (TP X pins σ Q) X.xe s
def WA (X : Cx) (es : List Expr) : TA := fun σ H Q => ∀ (pos : Pos) (pins : List (Addr × Obj)) (s : Shared), Inv X pins σ H s → wpAny (model X.prog X.w) X.A (spliced (backTo pos (starEach es X.env))) (AP X pins σ Q) X.xe s
def WS (X : Cx) (st : Stmt) : TS := fun D σ H => ∀ (pins : List (Addr × Obj)) (s : Shared), Inv X pins σ H s → wpAny (model X.prog X.w) X.A (exec st X.env) (SP X pins D) X.xe s
def WSs (X : Cx) (sts : List Stmt) : TS := fun D σ H => ∀ (pins : List (Addr × Obj)) (s : Shared), Inv X pins σ H s → wpAny (model X.prog X.w) X.A (execs sts X.env) (SP X pins D) X.xe s
def WTs (X : Cx) (ifs : List Expr) : TT := fun σ H Q => ∀ (pins : List (Addr × Obj)) (s : Shared), Inv X pins σ H s →
    wpAny (model X.prog X.w) X.A (forIn ifs true fun c r => if r = true then do let ok ← isTrue c X.env (eval c X.env); pure (ForInStep.yield ok) else pure (ForInStep.yield r)) (TP X pins σ Q) X.xe s
theorem pe_w (e : Expr) : PE X e (WE X e) := ⟨fun pins s σ H Q I h => h pins s I⟩
theorem pt_w (e : Expr) : PT X e (WT X e) := ⟨fun pins s σ H Q I h => h pins s I⟩
theorem pw_w (e : Expr) : PW X e (WW X e) := ⟨fun wh pins s σ H Q I h => h wh pins s I⟩
theorem pa_w (es : List Expr) : PA X es (WA X es) := ⟨fun pos pins s σ H Q I h => h pos pins s I⟩
theorem ps_w (st : Stmt) : PS X st (WS X st) := ⟨fun pins s σ H D I h => h pins s I⟩
theorem pss_w (sts : List Stmt) : PSs X sts (WSs X sts) := ⟨fun pins s σ H D I h => h pins s I⟩
theorem pts_w (ifs : List Expr) : PTs X ifs (WTs X ifs) := ⟨fun pins s σ H Q I h => h pins s I⟩
theorem we_of {e : Expr} {t : TE} {σ : L2.St} {H : Hp} {Q : VK} (p : PE X e t) (h : t σ H Q) : WE X e σ H Q := fun pins s I => p.run pins s σ H Q I h
theorem wt_of {e : Expr} {t : TT} {σ : L2.St} {H : Hp} {Q : Bool → Hp → Prop} (p : PT X e t) (h : t σ H Q) : WT X e σ H Q := fun pins s I => p.run pins s σ H Q I h
theorem ww_of {e : Expr} {t : TT} {σ : L2.St} {H : Hp} {Q : Bool → Hp → Prop} (p : PW X e t) (h : t σ H Q) : WW X e σ H Q := fun wh pins s I => p.run wh pins s σ H Q I h
theorem wa_of {es : List Expr} {t : TA} {σ : L2.St} {H : Hp} {Q : List V → Hp → Prop} (p : PA X es t) (h : t σ H Q) : WA X es σ H Q := fun pos pins s I => p.run pos pins s σ H Q I h
theorem ws_of {st : Stmt} {t : TS} {D : Ends} {σ : L2.St} {H : Hp} (p : PS X st t) (h : t D σ H) : WS X st D σ H := fun pins s I => p.run pins s σ H D I h
theorem wss_of {sts : List Stmt} {t : TS} {D : Ends} {σ : L2.St} {H : Hp} (p : PSs X sts t) (h : t D σ H) : WSs X sts D σ H := fun pins s I => p.run pins s σ H D I h
theorem wts_of {ifs : List Expr} {t : TT} {σ : L2.St} {H : Hp} {Q : Bool → Hp → Prop} (p : PTs X ifs t) (h : t σ H Q) : WTs X ifs σ H Q := fun pins s I => p.run pins s σ H Q I h
/-- the ends of a statement that stands ahead of others -/
def thn (X : Cx) (rest : List Stmt) (D : Ends) : Ends := { D with nx := WSs X rest D }
theorem wss_cons {st : Stmt} {rest : List Stmt} {D : Ends} {σ : L2.St} {H : Hp} (h : WS X st (thn X rest D) σ H) : WSs X (st :: rest) D σ H :=
  wss_of (pss_cons (ps_w st) (pss_w rest)) h
theorem wss_nil {D : Ends} {σ : L2.St} {H : Hp} (h : D.nx σ H) : WSs X [] D σ H := wss_of pss_nil h
end

/-! ### heaps: F what stands for good, M what is one's own and may change -/
structure Own (F M H : Hp) : Prop where
  f : Same F H
  m : Same M H
  d : ∀ a o, M a = some o → F a = none
  t : ∀ a vs, M a ≠ some (.tup vs)
section
variable {F F1 M M1 H H1 : Hp} {a b p : Addr} {o u : HO}
theorem same_new (h : H p = none) : Same H (upd H p o) := fun b x e => by
  rw [upd_ne (ne_of_none e h)]
  exact e
theorem same_in (e : Same M H) (h : M p = none) : Same M (upd H p o) := fun b x hb => by
  rw [upd_ne (ne_of_none hb h)]
  exact e b x hb
theorem same_upd (e : Same F H) : Same (upd F p o) (upd H p o) := fun b x hb => by
  by_cases q : b = p
  · subst q; rw [upd_same] at hb ⊢; exact hb
  · rw [upd_ne q] at hb ⊢; exact e b x hb
theorem Same.no (e : Same F H) (h : H p = none) : F p = none := by
  cases q : F p with
  | none => rfl
  | some x => rw [e p x q] at h; cases h
theorem Own.newF (w : Own F M H) (h : H p = none) : Own (upd F p o) M (upd H p o) :=
  ⟨same_upd w.f, same_in w.m (Same.no w.m h), fun b x e => by
    have hb : b ≠ p := fun q => by rw [q, Same.no w.m h] at e; cases e
    rw [upd_ne hb]; exact w.d b x e, w.t⟩
theorem Own.newM (w : Own F M H) (h : H p = none) (ho : ∀ vs, o ≠ .tup vs := by exact fun _ z => HO.noConfusion z) : Own F (upd M p o) (upd H p o) :=
  ⟨same_in w.f (Same.no w.f h), same_upd w.m, fun b x e => by
    by_cases q : b = p
    · subst q; exact Same.no w.f h
    · rw [upd_ne q] at e; exact w.d b x e, fun b vs e => by
    by_cases q : b = p
    · subst q; rw [upd_same] at e; exact ho vs (Option.some.inj e)
    · rw [upd_ne q] at e; exact w.t b vs e⟩
theorem Own.put (w : Own F M H) (h : M p = some u) (ho : ∀ vs, o ≠ .tup vs := by exact fun _ z => HO.noConfusion z) : Own F (upd M p o) (upd H p o) :=
  ⟨same_in w.f (w.d p u h), same_upd w.m, fun b x e => by
    by_cases q : b = p
    · subst q; exact w.d b u h
    · rw [upd_ne q] at e; exact w.d b x e, fun b vs e => by
    by_cases q : b = p
    · subst q; rw [upd_same] at e; exact ho vs (Option.some.inj e)
    · rw [upd_ne q] at e; exact w.t b vs e⟩
def del (M : Hp) (p : Addr) : Hp := fun b => if b = p then none else M b
theorem del_same : del M p p = none := by unfold del; rw [if_pos rfl]
theorem del_ne (h : b ≠ p) : del M p b = M b := by unfold del; rw [if_neg h]
theorem Own.freeze (w : Own F M H) (h : M p = some o) : Own (upd F p o) (del M p) H :=
  ⟨fun b x e => by
    by_cases q : b = p
    · subst q; rw [upd_same] at e; cases e; exact w.m b _ h
    · rw [upd_ne q] at e; exact w.f b x e,
   fun b x e => by
    by_cases q : b = p
    · subst q; rw [del_same] at e; cases e
    · rw [del_ne q] at e; exact w.m b x e,
   fun b x e => by
    by_cases q : b = p
    · subst q; rw [del_same] at e; cases e
    · rw [del_ne q] at e; rw [upd_ne q]; exact w.d b x e,
   fun b x e => by
    by_cases q : b = p
    · subst q; rw [del_same] at e; cases e
    · rw [del_ne q] at e; exact w.t b x e⟩
theorem Own.lessM (w : Own F M H) (s : Same M1 M) : Own F M1 H := ⟨w.f, s.trans w.m, fun a o e => w.d a o (s a o e), fun a vs e => w.t a vs (s a _ e)⟩
theorem Own.lessF (w : Own F M H) (s : Same F1 F) : Own F1 M H := ⟨s.trans w.f, w.m, fun a o e => by
  have h := w.d a o e
  exact Same.no s h, w.t⟩
theorem Own.noF (w : Own F M H) (h : H p = none) : F p = none := Same.no w.f h
theorem Own.noM (w : Own F M H) (h : H p = none) : M p = none := Same.no w.m h
theorem Own.neF (w : Own F M H) (hF : F b = some u) (h : M p = some o) : b ≠ p := fun q => by
  subst q; rw [w.d b o h] at hF; cases hF
theorem same_del (e : Same M1 M) (h : M1 p = none) : Same M1 (del M p) := fun b x hb => by
  rw [del_ne (ne_of_none hb h)]; exact e b x hb
/-- what was frozen for a while is one's own again -/
theorem Own.thaw (w : Own F M H) (h : M p = some o) (w1 : Own F1 (del M p) H1) (s : Same (upd F p o) F1) : Own F M H1 :=
  ⟨fun b x e => w1.f b x (s b x (by rw [upd_ne (w.neF e h)]; exact e)),
   fun b x e => by
    by_cases q : b = p
    · subst q; rw [h] at e; cases e; exact w1.f b _ (s b _ upd_same)
    · exact w1.m b x (by rw [del_ne q]; exact e),
   w.d, w.t⟩
end

/-! ### what stands for what -/
abbrev Rep (α : Type) := Hp → V → α → Prop
/-- a dict that stands there, to be read: locked or not -/
inductive DictO : HO → HO → Prop
  | k (kvs) : DictO (.dK kvs) (.dK kvs)
  | kf (o kvs) : DictO (.frz o (.dK kvs)) (.dK kvs)
  | t (kvs) : DictO (.dT kvs) (.dT kvs)
  | tf (o kvs) : DictO (.frz o (.dT kvs)) (.dT kvs)
/-- all stands as it was, but that dicts may have been locked or unlocked -/
def Sub (F F' : Hp) : Prop := ∀ a o, F a = some o → F' a = some o ∨ ∃ d o', DictO o d ∧ F' a = some o' ∧ DictO o' d
theorem Same.sub {F F' : Hp} (s : Same F F') : Sub F F' := fun a o h => .inl (s a o h)
theorem Sub.refl (F : Hp) : Sub F F := fun _ _ h => .inl h
theorem Sub.lst {F F' : Hp} (s : Sub F F') {a : Addr} {xs : List V} (h : F a = some (.lst xs)) : F' a = some (.lst xs) := by
  rcases s a _ h with h | ⟨d, o', h1, _⟩
  · exact h
  · cases h1
theorem Sub.tup {F F' : Hp} (s : Sub F F') {a : Addr} {xs : List V} (h : F a = some (.tup xs)) : F' a = some (.tup xs) := by
  rcases s a _ h with h | ⟨d, o', h1, _⟩
  · exact h
  · cases h1
theorem Sub.ins {F F' : Hp} (s : Sub F F') {a C dx : Addr} {fs : List (Str × V)} (h : F a = some (.ins C dx fs)) : F' a = some (.ins C dx fs) := by
  rcases s a _ h with h | ⟨d, o', h1, _⟩
  · exact h
  · cases h1
theorem Sub.dic {F F' : Hp} (s : Sub F F') {a : Addr} {o d : HO} (h : F a = some o) (k : DictO o d) : ∃ o', F' a = some o' ∧ DictO o' d := by
  rcases s a _ h with h | ⟨d', o', h1, h2, h3⟩
  · exact ⟨o, h, k⟩
  · have : d = d' := by cases k <;> cases h1 <;> rfl
    subst this
    exact ⟨o', h2, h3⟩
theorem Sub.trans {F F1 F2 : Hp} (a : Sub F F1) (b : Sub F1 F2) : Sub F F2 := fun x o h => by
  rcases a x o h with h1 | ⟨d, o', h1, h2, h3⟩
  · exact b x o h1
  · obtain ⟨o2, h4, h5⟩ := b.dic h2 h3
    exact .inr ⟨d, o2, h1, h4, h5⟩
theorem Sub.sql {K : PySem.W.Frag} {F F' : Hp} {a : Addr} {vs : List V} (e : Sub F F') (h : SqL K F a vs) : SqL K F' a vs := by
  rcases h with (h | ⟨o, h⟩) | h
  · exact .inl (.inl (e.lst h))
  · rcases e a _ h with h | ⟨d, o', h1, _⟩
    · exact .inl (.inr ⟨o, h⟩)
    · cases h1
  · exact .inr h
class Mono {α : Type} (r : Rep α) : Prop where
  sub : ∀ {F F' : Hp} {v : V} {x : α}, Sub F F' → r F v x → r F' v x
theorem Mono.mono {α : Type} {r : Rep α} [m : Mono r] {F F' : Hp} {v : V} {x : α} (s : Same F F') (h : r F v x) : r F' v x := m.sub (Same.sub s) h
inductive A2 {α β : Type} (p : α → β → Prop) : List α → List β → Prop
  | nil : A2 p [] []
  | cons {a b as bs} : p a b → A2 p as bs → A2 p (a :: as) (b :: bs)
namespace A2
variable {α β : Type} {p q : α → β → Prop}
theorem len : ∀ {as : List α} {bs : List β}, A2 p as bs → as.length = bs.length
  | _, _, .nil => rfl
  | _, _, .cons _ t => by simp [t.len]
theorem imp (f : ∀ a b, p a b → q a b) : ∀ {as : List α} {bs : List β}, A2 p as bs → A2 q as bs
  | _, _, .nil => .nil
  | _, _, .cons h t => .cons (f _ _ h) (t.imp f)
theorem get : ∀ {as : List α} {bs : List β} {i : Nat} {b : β}, A2 p as bs → bs[i]? = some b → ∃ a, as[i]? = some a ∧ p a b
  | _, _, _, _, .nil, e => by simp at e
  | _, _, 0, _, .cons h _, e => by simp at e; subst e; exact ⟨_, rfl, h⟩
  | _, _, i + 1, _, .cons _ t, e => by
    obtain ⟨a, h1, h2⟩ := get (i := i) t (by simpa using e)
    exact ⟨a, by simpa using h1, h2⟩
theorem getL : ∀ {as : List α} {bs : List β} {i : Nat} {a : α}, A2 p as bs → as[i]? = some a → ∃ b, bs[i]? = some b ∧ p a b
  | _, _, _, _, .nil, e => by simp at e
  | _, _, 0, _, .cons h _, e => by simp at e; subst e; exact ⟨_, rfl, h⟩
  | _, _, i + 1, _, .cons _ t, e => by
    obtain ⟨b, h1, h2⟩ := getL (i := i) t (by simpa using e)
    exact ⟨b, by simpa using h1, h2⟩
theorem app : ∀ {as as' : List α} {bs bs' : List β}, A2 p as bs → A2 p as' bs' → A2 p (as ++ as') (bs ++ bs')
  | _, _, _, _, .nil, h => h
  | _, _, _, _, .cons h t, h' => .cons h (t.app h')
theorem one {a : α} {b : β} (h : p a b) : A2 p [a] [b] := .cons h .nil
theorem push {as : List α} {bs : List β} {a : α} {b : β} (t : A2 p as bs) (h : p a b) : A2 p (as ++ [a]) (bs ++ [b]) := t.app (one h)
theorem drop : ∀ {as : List α} {bs : List β} (n : Nat), A2 p as bs → A2 p (as.drop n) (bs.drop n)
  | _, _, 0, h => h
  | _, _, _ + 1, .nil => .nil
  | _, _, n + 1, .cons _ t => t.drop n
theorem take : ∀ {as : List α} {bs : List β} (n : Nat), A2 p as bs → A2 p (as.take n) (bs.take n)
  | _, _, 0, _ => .nil
  | _, _, _ + 1, .nil => .nil
  | _, _, n + 1, .cons h t => .cons h (t.take n)
theorem rev : ∀ {as : List α} {bs : List β}, A2 p as bs → A2 p as.reverse bs.reverse
  | _, _, .nil => .nil
  | _, _, .cons h t => by rw [List.reverse_cons, List.reverse_cons]; exact t.rev.push h
theorem set {a : α} {b : β} (h : p a b) : ∀ {as : List α} {bs : List β} (i : Nat), A2 p as bs → A2 p (as.set i a) (bs.set i b)
  | _, _, _, .nil => .nil
  | _, _, 0, .cons _ t => .cons h t
  | _, _, i + 1, .cons q t => .cons q (A2.set h i t)
theorem of_map {γ : Type} {f : β → α} {as : List α} {bs : List β} (e : as = bs.map f) (h : ∀ b, b ∈ bs → p (f b) b) : A2 p as bs := by
  subst e
  induction bs with
  | nil => exact .nil
  | cons b bs ih => exact .cons (h b (by simp)) (ih fun c hc => h c (by simp [hc]))
theorem eq_map {f : β → α} : ∀ {as : List α} {bs : List β}, A2 (fun a b => a = f b) as bs → as = bs.map f
  | _, _, .nil => rfl
  | _, _, .cons h t => by rw [h, t.eq_map]; rfl
theorem mapI (f : β → α) : ∀ (bs : List β), A2 (fun a b => a = f b) (bs.map f) bs
  | [] => .nil
  | _ :: t => .cons rfl (mapI f t)
end A2
def iR : Rep Int := fun _ v x => v = .int x
def bR : Rep Bool := fun _ v x => v = .bl x
def sR : Rep Str := fun _ v x => v = .str x ∧ PyData.canLay0 (.str x) = true
def nR : Rep Unit := fun _ v _ => v = .non
def oR {α : Type} (r : Rep α) : Rep (Option α) := fun F v x => match x with | none => v = .non | some y => r F v y
def lR {α : Type} (r : Rep α) : Rep (List α) := fun F v xs => ∃ a vs, v = .ref a ∧ F a = some (.lst vs) ∧ A2 (r F) vs xs
def t2R {α β : Type} (r : Rep α) (s : Rep β) : Rep (α × β) := fun F v x => ∃ a u w, v = .ref a ∧ F a = some (.tup [u, w]) ∧ r F u x.1 ∧ s F w x.2
def t3R {α β γ : Type} (r : Rep α) (s : Rep β) (t : Rep γ) : Rep (α × β × γ) := fun F v x => ∃ a u w z, v = .ref a ∧ F a = some (.tup [u, w, z]) ∧ r F u x.1 ∧ s F w x.2.1 ∧ t F z x.2.2
/-- a list that is read: for good, the module's, or one's own -/
def rdR (K : PySem.W.Frag) (M : Hp) {α : Type} (r : Rep α) : Rep (List α) := fun F v xs => ∃ a vs, v = .ref a ∧ (SqL K F a vs ∨ M a = some (.lst vs)) ∧ A2 (r F) vs xs
/-- .. for good -/
def rsR (K : PySem.W.Frag) {α : Type} (r : Rep α) : Rep (List α) := fun F v xs => ∃ a vs, v = .ref a ∧ SqL K F a vs ∧ A2 (r F) vs xs
theorem Same.sql {K : PySem.W.Frag} {F F' : Hp} {a : Addr} {vs : List V} (e : Same F F') (h : SqL K F a vs) : SqL K F' a vs := L2.Same.seq e h
theorem Same.sqt {K : PySem.W.Frag} {F F' : Hp} {a : Addr} {vs : List V} (e : Same F F') (h : SqT K F a vs) : SqT K F' a vs := by
  rcases h with (h | ⟨o, h⟩) | h
  · exact .inl (.inl (e _ _ h))
  · exact .inl (.inr ⟨o, e _ _ h⟩)
  · exact .inr h
instance : Mono iR := ⟨fun _ h => h⟩
instance : Mono bR := ⟨fun _ h => h⟩
instance : Mono sR := ⟨fun _ h => h⟩
instance : Mono nR := ⟨fun _ h => h⟩
theorem A2.sub {α : Type} {r : Rep α} [m : Mono r] {F F' : Hp} (e : Sub F F') {vs : List V} {xs : List α} (h : A2 (r F) vs xs) : A2 (r F') vs xs := h.imp fun _ _ q => m.sub e q
theorem A2.up {α : Type} {r : Rep α} [m : Mono r] {F F' : Hp} (e : Same F F') {vs : List V} {xs : List α} (h : A2 (r F) vs xs) : A2 (r F') vs xs := h.sub (Same.sub e)
instance {α : Type} {r : Rep α} [m : Mono r] : Mono (oR r) := ⟨fun {F F' v x} e h => by cases x with
  | none => exact h
  | some y => exact m.sub (x := y) e h⟩
instance {α : Type} {r : Rep α} [m : Mono r] : Mono (lR r) := ⟨fun e ⟨a, vs, h1, h2, h3⟩ => ⟨a, vs, h1, e.lst h2, h3.sub e⟩⟩
instance {α β : Type} {r : Rep α} {s : Rep β} [m : Mono r] [n : Mono s] : Mono (t2R r s) := ⟨fun e ⟨a, u, w, h1, h2, h3, h4⟩ => ⟨a, u, w, h1, e.tup h2, m.sub e h3, n.sub e h4⟩⟩
instance {α β γ : Type} {r : Rep α} {s : Rep β} {t : Rep γ} [m : Mono r] [n : Mono s] [k : Mono t] : Mono (t3R r s t) := ⟨fun e ⟨a, u, w, z, h1, h2, h3, h4, h5⟩ => ⟨a, u, w, z, h1, e.tup h2, m.sub e h3, n.sub e h4, k.sub e h5⟩⟩
instance {K : PySem.W.Frag} {M : Hp} {α : Type} {r : Rep α} [m : Mono r] : Mono (rdR K M r) := ⟨fun e ⟨a, vs, h1, h2, h3⟩ => ⟨a, vs, h1, h2.imp (fun q => Sub.sql e q) id, h3.sub e⟩⟩
instance {K : PySem.W.Frag} {α : Type} {r : Rep α} [m : Mono r] : Mono (rsR K r) := ⟨fun e ⟨a, vs, h1, h2, h3⟩ => ⟨a, vs, h1, Sub.sql e h2, h3.sub e⟩⟩
theorem lR.rs {K : PySem.W.Frag} {α : Type} {r : Rep α} {F : Hp} {v : V} {xs : List α} (h : lR r F v xs) : rsR K r F v xs :=
  let ⟨a, vs, h1, h2, h3⟩ := h; ⟨a, vs, h1, SqL.of h2, h3⟩
theorem rsR.rd {K : PySem.W.Frag} {M : Hp} {α : Type} {r : Rep α} {F : Hp} {v : V} {xs : List α} (h : rsR K r F v xs) : rdR K M r F v xs :=
  let ⟨a, vs, h1, h2, h3⟩ := h; ⟨a, vs, h1, .inl h2, h3⟩
theorem lR.rd {K : PySem.W.Frag} {M : Hp} {α : Type} {r : Rep α} {F : Hp} {v : V} {xs : List α} (h : lR r F v xs) : rdR K M r F v xs := (lR.rs (K := K) h).rd
theorem Own.sq {K : PySem.W.Frag} {F M H : Hp} {a : Addr} {vs : List V} (w : Own F M H) (h : SqL K F a vs ∨ M a = some (.lst vs)) : SqL K H a vs := by
  rcases h with h | h
  · exact Same.sql w.f h
  · exact SqL.of (w.m _ _ h)
theorem iR_map {F : Hp} {vs : List V} {xs : List Int} (h : A2 (iR F) vs xs) : vs = xs.map V.int := A2.eq_map (f := V.int) h

/-! ### what an expression evaluates to -/
def Ev (X : Cx) (e : Expr) (σ : L2.St) (F M : Hp) (Φ : Hp → V → Prop) : Prop :=
  ∀ F1 H1, Same F F1 → Own F1 M H1 → ∀ Q : VK, (∀ F2 H2 v, Same F1 F2 → Own F2 M H2 → Φ F2 v → Q v H2) → WE X e σ H1 Q
abbrev EvF (X : Cx) (e : Expr) (σ : L2.St) (F M : Hp) {α : Type} (r : Rep α) (x : α) : Prop := Ev X e σ F M fun F v => r F v x
def EvT (X : Cx) (e : Expr) (σ : L2.St) (F M : Hp) (b : Bool) : Prop :=
  ∀ F1 H1, Same F F1 → Own F1 M H1 → ∀ Q : Bool → Hp → Prop, (∀ F2 H2, Same F1 F2 → Own F2 M H2 → Q b H2) → WT X e σ H1 Q
def EvW (X : Cx) (e : Expr) (σ : L2.St) (F M : Hp) (b : Bool) : Prop :=
  ∀ F1 H1, Same F F1 → Own F1 M H1 → ∀ Q : Bool → Hp → Prop, (∀ F2 H2, Same F1 F2 → Own F2 M H2 → Q b H2) → WW X e σ H1 Q
def EvTs (X : Cx) (es : List Expr) (σ : L2.St) (F M : Hp) (b : Bool) : Prop :=
  ∀ F1 H1, Same F F1 → Own F1 M H1 → ∀ Q : Bool → Hp → Prop, (∀ F2 H2, Same F1 F2 → Own F2 M H2 → Q b H2) → WTs X es σ H1 Q
def EvA (X : Cx) (es : List Expr) (σ : L2.St) (F M : Hp) (Φ : Hp → List V → Prop) : Prop :=
  ∀ F1 H1, Same F F1 → Own F1 M H1 → ∀ Q : List V → Hp → Prop, (∀ F2 H2 vs, Same F1 F2 → Own F2 M H2 → Φ F2 vs → Q vs H2) → WA X es σ H1 Q
section
variable {X : Cx} {σ : L2.St} {F M : Hp} {a b c e : Expr} {pos p : Pos} {α β : Type} {r : Rep α} {s : Rep β}
theorem Ev.imp {Φ Ψ : Hp → V → Prop} (h : Ev X e σ F M Φ) (f : ∀ F v, Φ F v → Ψ F v) : Ev X e σ F M Ψ := fun F1 H1 s w Q q => h F1 H1 s w Q fun F2 H2 v s2 w2 z => q F2 H2 v s2 w2 (f _ _ z)
theorem Ev.up {F' : Hp} {Φ : Hp → V → Prop} (h : Ev X e σ F M Φ) (s : Same F F') : Ev X e σ F' M Φ := fun F1 H1 s1 w Q q => h F1 H1 (s.trans s1) w Q q
theorem EvT.up {F' : Hp} {k : Bool} (h : EvT X e σ F M k) (s : Same F F') : EvT X e σ F' M k := fun F1 H1 s1 w Q q => h F1 H1 (s.trans s1) w Q q
theorem Ev.eq {x y : α} (h : EvF X e σ F M r x) (q : x = y) : EvF X e σ F M r y := q ▸ h
/-- a list for reading -/
theorem Ev.rd {xs : List α} (h : EvF X e σ F M (lR r) xs) : EvF X e σ F M (rdR X.K M r) xs := h.imp fun _ _ z => z.rd
theorem Ev.sd {xs : List α} (h : EvF X e σ F M (rsR X.K r) xs) : EvF X e σ F M (rdR X.K M r) xs := h.imp fun _ _ z => z.rd
theorem Ev.rs {xs : List α} (h : EvF X e σ F M (lR r) xs) : EvF X e σ F M (rsR X.K r) xs := h.imp fun _ _ z => z.rs

/-! names and constants -/
theorem ev_var (i : Nat) {x : α} {v : V} {n : Str} [m : Mono r] (hs : σ[i]? = some (some v)) (hr : r F v x) (hN : X.N[i]? = some n := by rfl)
    (hv : Vis X.env.scope n := by first | exact Or.inl rfl | exact Or.inr (Or.inl rfl) | exact Or.inr (Or.inr rfl)) (hd : (n == ("__debug__" : Str)) = false := by decide) (hcd : (n == ("__classdict__" : Str)) = false := by decide) :
    EvF X (.Name n pos) σ F M r x := fun F1 H1 s w Q q => we_of (pe_var hN hv hd hcd) ⟨v, hs, q F1 H1 v (Same.refl _) w (Mono.mono s hr)⟩
/-- a list of one's own, for reading -/
theorem ev_varM (i : Nat) {xs : List α} {l : Addr} {vs : List V} {n : Str} [m : Mono r] (hs : σ[i]? = some (some (.ref l))) (hM : M l = some (.lst vs)) (hr : A2 (r F) vs xs) (hN : X.N[i]? = some n := by rfl)
    (hv : Vis X.env.scope n := by first | exact Or.inl rfl | exact Or.inr (Or.inl rfl) | exact Or.inr (Or.inr rfl)) (hd : (n == ("__debug__" : Str)) = false := by decide) (hcd : (n == ("__classdict__" : Str)) = false := by decide) :
    EvF X (.Name n pos) σ F M (rdR X.K M r) xs := fun F1 H1 s w Q q => we_of (pe_var hN hv hd hcd) ⟨_, hs, q F1 H1 _ (Same.refl _) w ⟨l, vs, rfl, .inr hM, hr.up s⟩⟩
theorem ev_val (i : Nat) {v : V} {n : Str} (hs : σ[i]? = some (some v)) (hN : X.N[i]? = some n := by rfl)
    (hv : Vis X.env.scope n := by first | exact Or.inl rfl | exact Or.inr (Or.inl rfl) | exact Or.inr (Or.inr rfl)) (hd : (n == ("__debug__" : Str)) = false := by decide) (hcd : (n == ("__classdict__" : Str)) = false := by decide) :
    Ev X (.Name n pos) σ F M (fun _ u => u = v) := fun F1 H1 s w Q q => we_of (pe_var hN hv hd hcd) ⟨v, hs, q F1 H1 v (Same.refl _) w rfl⟩
theorem ev_int {i : Int} {j} : EvF X (.Constant (.int i) j pos) σ F M iR i := fun F1 H1 s w Q q => we_of pe_int (q F1 H1 _ (Same.refl _) w rfl)
theorem ev_bl {i : Bool} {j} : EvF X (.Constant (.bool i) j pos) σ F M bR i := fun F1 H1 s w Q q => we_of pe_bl (q F1 H1 _ (Same.refl _) w rfl)
theorem ev_non {j} : EvF X (.Constant .none j pos) σ F M nR () := fun F1 H1 s w Q q => we_of pe_non (q F1 H1 _ (Same.refl _) w rfl)
theorem ev_noneO {j} : EvF X (.Constant .none j pos) σ F M (oR r) none := fun F1 H1 s w Q q => we_of pe_non (q F1 H1 _ (Same.refl _) w rfl)
theorem ev_str {i : Str} {j} (h : PyData.canLay0 (.str i) = true := by decide +kernel) : EvF X (.Constant (.str i) j pos) σ F M sR i := fun F1 H1 s w Q q => we_of pe_str (q F1 H1 _ (Same.refl _) w ⟨rfl, h⟩)
/-- a module's constant -/
theorem ev_glob {n : Str} {v : V} {u : Value} {Φ : Hp → V → Prop} (hm : X.mg n = some u) (rv : RelV v u) (h : ∀ F, Φ F v) (hg : Gl X n := by rfl) (hd : (n == ("__debug__" : Str)) = false := by decide) : Ev X (.Name n pos) σ F M Φ := fun F1 H1 s w Q q => we_of (pe_glob hg hm rv hd) (q F1 H1 _ (Same.refl _) w (h _))

theorem ev_globI {n : Str} {i : Int} {u : Tok} (hm : X.mg n = some (.int i u)) (hg : Gl X n := by rfl) (hd : (n == ("__debug__" : Str)) = false := by decide) : EvF X (.Name n pos) σ F M iR i := ev_glob (v := .int i) hm ⟨_, rfl⟩ (fun _ => rfl) hg hd
theorem ev_globS {n : Str} {i : Str} {u : Tok} (hm : X.mg n = some (.str i u)) (hl : PyData.canLay0 (.str i) = true := by decide +kernel) (hg : Gl X n := by rfl) (hd : (n == ("__debug__" : Str)) = false := by decide) : EvF X (.Name n pos) σ F M sR i := ev_glob (v := .str i) hm ⟨_, rfl⟩ (fun _ => ⟨rfl, hl⟩) hg hd

/-! ints -/
theorem ev_opI {op : Operator} {C : Int → Int → Prop} {g : Int → Int → V} {Φ : Hp → V → Prop} {i j : Int} (ho : OpR X (binaryOp op) (L2.rI C g)) (hc : C i j) (h : ∀ F, Φ F (g i j)) (ha : EvF X a σ F M iR i) (hb : EvF X b σ F M iR j) : Ev X (.BinOp a op b pos) σ F M Φ :=
  fun F1 H1 s w Q q => we_of (pe_op ho (pe_w a) (pe_w b)) (ha F1 H1 s w _ fun F2 H2 v s2 w2 hv => hb F2 H2 (s.trans s2) w2 _ fun F3 H3 u s3 w3 hu => ⟨i, j, hv, hu, hc, q F3 H3 _ (s2.trans s3) w3 (h F3)⟩)
theorem ev_opI0 {op : Operator} {g : Int → Int → V} {Φ : Hp → V → Prop} {i j : Int} (ho : OpR X (binaryOp op) (rI0 g)) (h : ∀ F, Φ F (g i j)) (ha : EvF X a σ F M iR i) (hb : EvF X b σ F M iR j) : Ev X (.BinOp a op b pos) σ F M Φ :=
  fun F1 H1 s w Q q => we_of (pe_op ho (pe_w a) (pe_w b)) (ha F1 H1 s w _ fun F2 H2 v s2 w2 hv => hb F2 H2 (s.trans s2) w2 _ fun F3 H3 u s3 w3 hu => ⟨i, j, hv, hu, q F3 H3 _ (s2.trans s3) w3 (h F3)⟩)
theorem ev_add {i j : Int} (ha : EvF X a σ F M iR i) (hb : EvF X b σ F M iR j) : EvF X (.BinOp a .Add b pos) σ F M iR (i + j) := ev_opI0 op_add (fun _ => rfl) ha hb
theorem ev_sub {i j : Int} (ha : EvF X a σ F M iR i) (hb : EvF X b σ F M iR j) : EvF X (.BinOp a .Sub b pos) σ F M iR (i - j) := ev_opI0 op_sub (fun _ => rfl) ha hb
theorem ev_mul {i j : Int} (ha : EvF X a σ F M iR i) (hb : EvF X b σ F M iR j) (hc : CMul i j) : EvF X (.BinOp a .Mult b pos) σ F M iR (i * j) := ev_opI op_mul hc (fun _ => rfl) ha hb
theorem ev_div {i j : Int} (ha : EvF X a σ F M iR i) (hb : EvF X b σ F M iR j) (hc : CDiv i j := by exact ⟨by decide, by decide⟩) : EvF X (.BinOp a .FloorDiv b pos) σ F M iR (i / j) := ev_opI op_fdiv hc (fun _ => rfl) ha hb
theorem ev_mod {i j : Int} (ha : EvF X a σ F M iR i) (hb : EvF X b σ F M iR j) (hc : 0 < j := by decide) : EvF X (.BinOp a .Mod b pos) σ F M iR (i % j) := ev_opI op_mod hc (fun _ => rfl) ha hb
theorem ev_pow {i j : Int} (ha : EvF X a σ F M iR i) (hb : EvF X b σ F M iR j) (hc : CPow i j := by exact ⟨by decide, by decide, by decide⟩) : EvF X (.BinOp a .Pow b pos) σ F M iR (i ^ j.toNat) := ev_opI op_pow hc (fun _ => rfl) ha hb
theorem ev_neg {i : Int} (ha : EvF X a σ F M iR i) : EvF X (.UnaryOp .USub a pos) σ F M iR (-i) :=
  fun F1 H1 s w Q q => we_of (pe_un un_neg (pe_w a)) (ha F1 H1 s w _ fun F2 H2 v s2 w2 hv => ⟨i, hv, q F2 H2 _ s2 w2 rfl⟩)

/-! comparisons, as values and as tests -/
/-- a truth, as a value and as a test -/
def Bx (X : Cx) (e : Expr) (σ : L2.St) (F M : Hp) (k : Bool) : Prop := EvF X e σ F M bR k ∧ EvT X e σ F M k
def WC (X : Cx) (op : CmpOp) (a b : Expr) : TE := fun σ H Q => ∀ (pins : List (Addr × Obj)) (s : Shared), Inv X pins σ H s →
  wpAny (model X.prog X.w) X.A (eval a X.env) (fun v s₁ => wpAny (model X.prog X.w) X.A (eval b X.env) (fun u s₂ => wpAny (model X.prog X.w) X.A (compareOp op v u) (EP X pins σ Q) X.xe s₂) X.xe s₁) X.xe s
theorem pc_w (op : CmpOp) (a b : Expr) : PC X op a b (WC X op a b) := ⟨fun pins s σ H Q I h => h pins s I⟩
theorem wc_of {op : CmpOp} {t : TE} {H : Hp} {Q : VK} (p : PC X op a b t) (h : t σ H Q) : WC X op a b σ H Q := fun pins s I => p.run pins s σ H Q I h
theorem pc_R {op : CmpOp} {ta tb : TE} {r : R2} (ho : OpR X (compareOp op) r) (ha : PE X a ta) (hb : PE X b tb) : PC X op a b (tOp r ta tb) :=
  ⟨fun pins s σ H Q I h => bin ha hb I h fun v u s2 x y H2 I2 rx ry q => ho pins s2 σ H2 x y v u Q I2 rx ry q⟩
def EvC (X : Cx) (op : CmpOp) (a b : Expr) (σ : L2.St) (F M : Hp) (k : Bool) : Prop :=
  ∀ F1 H1, Same F F1 → Own F1 M H1 → ∀ Q : VK, (∀ F2 H2, Same F1 F2 → Own F2 M H2 → Q (.bl k) H2) → WC X op a b σ H1 Q
theorem bx_c {op : CmpOp} {k : Bool} (h : EvC X op a b σ F M k) (hm : behindInMarks op b = false := by first | exact nomark _ | rfl) : Bx X (.Compare a [op] [b] pos) σ F M k :=
  ⟨fun F1 H1 s w Q q => we_of (pe_cmp (pc_w op a b) hm) (h F1 H1 s w Q fun F2 H2 s2 w2 => q F2 H2 _ s2 w2 rfl),
   fun F1 H1 s w Q q => wt_of (pt_cmp (pc_w op a b) hm) (h F1 H1 s w _ fun F2 H2 s2 w2 => ⟨k, rfl, q F2 H2 s2 w2⟩)⟩
/-- a comparison by its rule on values -/
theorem ec_R {op : CmpOp} {rr : R2} {Φ Ψ : Hp → V → Prop} {k : Bool} (ho : OpR X (compareOp op) rr) (ha : Ev X a σ F M Φ) (hb : Ev X b σ F M Ψ) (hup : ∀ F F' v, Same F F' → Φ F v → Φ F' v)
    (h : ∀ F1 H1 v u, Same F F1 → Own F1 M H1 → Φ F1 v → Ψ F1 u → ∀ Q : VK, Q (.bl k) H1 → rr v u H1 Q) : EvC X op a b σ F M k :=
  fun F1 H1 s w Q q => wc_of (pc_R ho (pe_w a) (pe_w b)) (ha F1 H1 s w _ fun F2 H2 v s2 w2 hv => hb F2 H2 (s.trans s2) w2 _ fun F3 H3 u s3 w3 hu => h F3 H3 v u ((s.trans s2).trans s3) w3 (hup _ _ _ s3 hv) hu Q (q F3 H3 (s2.trans s3) w3))
theorem ec_I0 {op : CmpOp} {g : Int → Int → Bool} {i j : Int} (ho : OpR X (compareOp op) (rI0 fun i j => .bl (g i j))) (ha : EvF X a σ F M iR i) (hb : EvF X b σ F M iR j) : EvC X op a b σ F M (g i j) :=
  ec_R ho ha hb (fun _ _ _ _ h => h) fun _ _ _ _ _ _ hv hu _ q => ⟨i, j, hv, hu, q⟩
theorem bx_lt {i j : Int} (ha : EvF X a σ F M iR i) (hb : EvF X b σ F M iR j) : Bx X (.Compare a [.Lt] [b] pos) σ F M (decide (i < j)) := bx_c (ec_I0 (g := fun i j => decide (i < j)) op_lt ha hb)
theorem bx_le {i j : Int} (ha : EvF X a σ F M iR i) (hb : EvF X b σ F M iR j) : Bx X (.Compare a [.LtE] [b] pos) σ F M (decide (i ≤ j)) := bx_c (ec_I0 (g := fun i j => decide (i ≤ j)) op_le ha hb)
theorem bx_gt {i j : Int} (ha : EvF X a σ F M iR i) (hb : EvF X b σ F M iR j) : Bx X (.Compare a [.Gt] [b] pos) σ F M (decide (j < i)) := bx_c (ec_I0 (g := fun i j => decide (j < i)) op_gt ha hb)
theorem bx_ge {i j : Int} (ha : EvF X a σ F M iR i) (hb : EvF X b σ F M iR j) : Bx X (.Compare a [.GtE] [b] pos) σ F M (decide (j ≤ i)) := bx_c (ec_I0 (g := fun i j => decide (j ≤ i)) op_ge ha hb)
theorem bx_eqI {i j : Int} (ha : EvF X a σ F M iR i) (hb : EvF X b σ F M iR j) : Bx X (.Compare a [.Eq] [b] pos) σ F M (decide (i = j)) :=
  bx_c (ec_R op_eq ha hb (fun _ _ _ _ h => h) fun _ _ v u _ _ hv hu Q q => by
    cases (show v = V.int i from hv); cases (show u = V.int j from hu)
    refine ⟨rfl, ?_⟩
    rw [dec_int]; exact q)
theorem bx_neI {i j : Int} (ha : EvF X a σ F M iR i) (hb : EvF X b σ F M iR j) : Bx X (.Compare a [.NotEq] [b] pos) σ F M (!decide (i = j)) :=
  bx_c (ec_R op_ne ha hb (fun _ _ _ _ h => h) fun _ _ v u _ _ hv hu Q q => by
    cases (show v = V.int i from hv); cases (show u = V.int j from hu)
    refine ⟨rfl, ?_⟩
    rw [dec_int]; exact q)
theorem bx_eqS {i j : Str} (ha : EvF X a σ F M sR i) (hb : EvF X b σ F M sR j) : Bx X (.Compare a [.Eq] [b] pos) σ F M (decide (i = j)) :=
  bx_c (ec_R op_eq ha hb (fun _ _ _ _ h => h) fun _ _ v u _ _ hv hu Q q => by
    cases hv.1; cases hu.1
    refine ⟨rfl, ?_⟩
    rw [dec_str]; exact q)
theorem bx_neS {i j : Str} (ha : EvF X a σ F M sR i) (hb : EvF X b σ F M sR j) : Bx X (.Compare a [.NotEq] [b] pos) σ F M (!decide (i = j)) :=
  bx_c (ec_R op_ne ha hb (fun _ _ _ _ h => h) fun _ _ v u _ _ hv hu Q q => by
    cases hv.1; cases hu.1
    refine ⟨rfl, ?_⟩
    rw [dec_str]; exact q)
/-- a value that is a truth -/
theorem bx_val {k : Bool} (h : EvF X e σ F M bR k) (he : ∀ whole, isTrue e X.env whole = (do let v ← whole; standAt e.pos; holding [v] (truthy v)) := by intro _; rfl) : Bx X e σ F M k :=
  ⟨h, fun F1 H1 s w Q q => wt_of (pt_val (pe_w e) he) (h F1 H1 s w _ fun F2 H2 v s2 w2 hv => ⟨k, hv, q F2 H2 s2 w2⟩)⟩
theorem Bx.eq {k j : Bool} (h : Bx X e σ F M k) (q : k = j) : Bx X e σ F M j := q ▸ h
theorem bx_not {k : Bool} (h : Bx X a σ F M k) : Bx X (.UnaryOp .Not a pos) σ F M (!k) :=
  ⟨fun F1 H1 s w Q q => we_of (pe_not (pe_w a)) (h.1 F1 H1 s w _ fun F2 H2 v s2 w2 hv => ⟨k, hv, q F2 H2 _ s2 w2 rfl⟩),
   fun F1 H1 s w Q q => wt_of (pt_not (pt_w a)) (h.2 F1 H1 s w _ fun F2 H2 s2 w2 => q F2 H2 s2 w2)⟩
/-- and, or: a list of them -/
def BxL (X : Cx) (op : BoolOp) (es : List Expr) (pos : Pos) (σ : L2.St) (F M : Hp) (k : Bool) : Prop := EvF X (.BoolOp op es pos) σ F M bR k ∧ EvW X (.BoolOp op es pos) σ F M k
variable {rest : List Expr}
theorem bl_one_and {k : Bool} (h : Bx X a σ F M k) : BxL X .And [a] pos σ F M k :=
  ⟨fun F1 H1 s w Q q => we_of (pe_one (pe_w a)) (h.1 F1 H1 s w Q q), fun F1 H1 s w Q q => ww_of (pw_and1 (pt_w a)) (h.2 F1 H1 s w Q q)⟩
theorem bl_one_or {k : Bool} (h : Bx X a σ F M k) : BxL X .Or [a] pos σ F M k :=
  ⟨fun F1 H1 s w Q q => we_of (pe_one (pe_w a)) (h.1 F1 H1 s w Q q), fun F1 H1 s w Q q => ww_of (pw_or1 (pt_w a)) (h.2 F1 H1 s w Q q)⟩
theorem bl_and {k j : Bool} (h : Bx X a σ F M k) (t : k = true → BxL X .And (b :: rest) pos σ F M j) : BxL X .And (a :: b :: rest) pos σ F M (k && j) := by
  refine ⟨fun F1 H1 s w Q q => we_of (pe_and (pe_w a) (pe_w _)) (h.1 F1 H1 s w _ fun F2 H2 v s2 w2 hv => ⟨k, hv, ?_⟩), fun F1 H1 s w Q q => ww_of (pw_and (pt_w a) (pw_w _)) (h.2 F1 H1 s w _ fun F2 H2 s2 w2 => ?_)⟩
  · cases k with
    | true => exact (t rfl).1 F2 H2 (s.trans s2) w2 Q fun F3 H3 u s3 w3 hu => q F3 H3 u (s2.trans s3) w3 hu
    | false => exact q F2 H2 _ s2 w2 rfl
  · cases k with
    | true => exact (t rfl).2 F2 H2 (s.trans s2) w2 Q fun F3 H3 s3 w3 => q F3 H3 (s2.trans s3) w3
    | false => exact q F2 H2 s2 w2
theorem bl_or {k j : Bool} (h : Bx X a σ F M k) (t : k = false → BxL X .Or (b :: rest) pos σ F M j) : BxL X .Or (a :: b :: rest) pos σ F M (k || j) := by
  refine ⟨fun F1 H1 s w Q q => we_of (pe_or (pe_w a) (pe_w _)) (h.1 F1 H1 s w _ fun F2 H2 v s2 w2 hv => ⟨k, hv, ?_⟩), fun F1 H1 s w Q q => ww_of (pw_or (pt_w a) (pw_w _)) (h.2 F1 H1 s w _ fun F2 H2 s2 w2 => ?_)⟩
  · cases k with
    | false => exact (t rfl).1 F2 H2 (s.trans s2) w2 Q fun F3 H3 u s3 w3 hu => q F3 H3 u (s2.trans s3) w3 hu
    | true => exact q F2 H2 _ s2 w2 rfl
  · cases k with
    | false => exact (t rfl).2 F2 H2 (s.trans s2) w2 Q fun F3 H3 s3 w3 => q F3 H3 (s2.trans s3) w3
    | true => exact q F2 H2 s2 w2
theorem bx_l {op : BoolOp} {es : List Expr} {k : Bool} (h : BxL X op es pos σ F M k) : Bx X (.BoolOp op es pos) σ F M k :=
  ⟨h.1, fun F1 H1 s w Q q => wt_of (PW.pt (pw_w _)) (h.2 F1 H1 s w Q q)⟩
theorem ev_if {Φ : Hp → V → Prop} {k : Bool} (hc : Bx X c σ F M k) (h1 : k = true → Ev X a σ F M Φ) (h2 : k = false → Ev X b σ F M Φ) : Ev X (.IfExp c a b pos) σ F M Φ :=
  fun F1 H1 s w Q q => we_of (pe_ifExp (pt_w c) (pe_w a) (pe_w b)) (hc.2 F1 H1 s w _ fun F2 H2 s2 w2 => by
    cases k with
    | true => exact h1 rfl F2 H2 (s.trans s2) w2 Q fun F3 H3 u s3 w3 hu => q F3 H3 u (s2.trans s3) w3 hu
    | false => exact h2 rfl F2 H2 (s.trans s2) w2 Q fun F3 H3 u s3 w3 hu => q F3 H3 u (s2.trans s3) w3 hu)

/-! argument lists -/
theorem ea_nil : EvA X [] σ F M fun _ vs => vs = [] := fun F1 H1 s w Q q => wa_of pa_nil (q F1 H1 _ (Same.refl _) w rfl)
theorem ea_cons {es : List Expr} {x : α} [m : Mono r] {Ψ : Hp → List V → Prop} (ha : EvF X a σ F M r x) (h : EvA X es σ F M Ψ) (hs : starEach (a :: es) X.env = (false, eval a X.env) :: starEach es X.env := by rfl) :
    EvA X (a :: es) σ F M fun F vs => ∃ v us, vs = v :: us ∧ r F v x ∧ Ψ F us :=
  fun F1 H1 s w Q q => wa_of (pa_cons (pe_w a) (pa_w es) hs) (ha F1 H1 s w _ fun F2 H2 v s2 w2 hv => h F2 H2 (s.trans s2) w2 _ fun F3 H3 us s3 w3 hu => q F3 H3 _ (s2.trans s3) w3 ⟨v, us, rfl, Mono.mono s3 hv, hu⟩)
/-- the arguments as one list of things of one kind -/
theorem ea_nilL : EvA X [] σ F M fun F vs => A2 (r F) vs [] := fun F1 H1 s w Q q => wa_of pa_nil (q F1 H1 _ (Same.refl _) w .nil)
theorem ea_consL {es : List Expr} {x : α} {xs : List α} [m : Mono r] (ha : EvF X a σ F M r x) (h : EvA X es σ F M fun F vs => A2 (r F) vs xs) (hs : starEach (a :: es) X.env = (false, eval a X.env) :: starEach es X.env := by rfl) :
    EvA X (a :: es) σ F M fun F vs => A2 (r F) vs (x :: xs) :=
  fun F1 H1 s w Q q => wa_of (pa_cons (pe_w a) (pa_w es) hs) (ha F1 H1 s w _ fun F2 H2 v s2 w2 hv => h F2 H2 (s.trans s2) w2 _ fun F3 H3 us s3 w3 hu => q F3 H3 _ (s2.trans s3) w3 (.cons (Mono.mono s3 hv) hu))
theorem small_of {n : Nat} (h : n ≤ 1000000) : n ≤ sizeLine := Nat.le_trans h (by decide)
/-- a new list: its address is in neither part -/
def EvN (X : Cx) (e : Expr) (σ : L2.St) (F M : Hp) {α : Type} (r : Rep α) (xs : List α) : Prop :=
  ∀ F1 H1, Same F F1 → Own F1 M H1 → ∀ Q : VK, (∀ F2 H2 a vs, Same F1 F2 → Own F2 M H2 → F2 a = none → M a = none → H2 a = some (.lst vs) → A2 (r F2) vs xs → Q (.ref a) H2) → WE X e σ H1 Q
theorem Own.keepF {F M H : Hp} {a : Addr} {o : HO} (w : Own F M H) (h1 : F a = none) (h2 : M a = none) (h : H a = some o) : Own (upd F a o) M H :=
  ⟨fun b x e => by
    by_cases q : b = a
    · subst q; rw [upd_same] at e; cases e; exact h
    · rw [upd_ne q] at e; exact w.f b x e, w.m, fun b x e => by
    by_cases q : b = a
    · subst q; rw [h2] at e; cases e
    · rw [upd_ne q]; exact w.d b x e, w.t⟩
theorem Own.keepM {F M H : Hp} {a : Addr} {o : HO} (w : Own F M H) (h1 : F a = none) (h2 : M a = none) (h : H a = some o) (ho : ∀ vs, o ≠ .tup vs := by exact fun _ z => HO.noConfusion z) : Own F (upd M a o) H :=
  ⟨w.f, fun b x e => by
    by_cases q : b = a
    · subst q; rw [upd_same] at e; cases e; exact h
    · rw [upd_ne q] at e; exact w.m b x e, fun b x e => by
    by_cases q : b = a
    · subst q; exact h1
    · rw [upd_ne q] at e; exact w.d b x e, fun b vs e => by
    by_cases q : b = a
    · subst q; rw [upd_same] at e; exact ho vs (Option.some.inj e)
    · rw [upd_ne q] at e; exact w.t b vs e⟩
theorem EvN.fz {xs : List α} [m : Mono r] (h : EvN X e σ F M r xs) : EvF X e σ F M (lR r) xs := fun F1 H1 s w Q q => h F1 H1 s w Q fun F2 H2 a vs s2 w2 n1 n2 hh h2 =>
  q _ H2 _ (s2.trans (same_new n1)) (w2.keepF n1 n2 hh) ⟨a, vs, rfl, upd_same, h2.up (same_new n1)⟩
theorem en_lst {es : List Expr} {xs : List α} [m : Mono r] (h : EvA X es σ F M fun F vs => A2 (r F) vs xs) (hl : xs.length ≤ 1000000 := by simp) : EvN X (.List es pos) σ F M r xs :=
  fun F1 H1 s w Q q => we_of (pe_lst (pa_w es)) (h F1 H1 s w _ fun F2 H2 vs s2 w2 hv => ⟨small_of (by rw [hv.len]; exact hl), fun p hp => by
    refine q F2 _ p vs s2 ?_ (w2.noF hp) (w2.noM hp) upd_same hv
    exact ⟨same_in w2.f (w2.noF hp), same_in w2.m (w2.noM hp), w2.d, w2.t⟩⟩)
theorem ev_t2 {a b : Expr} {x : α} {y : β} {x1} [m : Mono r] [n : Mono s] (ha : EvF X a σ F M r x) (hb : EvF X b σ F M s y) (hs : starEach [a, b] X.env = (false, eval a X.env) :: starEach [b] X.env := by rfl) (hs2 : starEach [b] X.env = (false, eval b X.env) :: starEach [] X.env := by rfl) :
    EvF X (.Tuple [a, b] x1 pos) σ F M (t2R r s) (x, y) :=
  fun F1 H1 s w Q q => we_of (pe_tup (pa_w [a, b])) (ea_cons ha (ea_cons hb ea_nil hs2) hs F1 H1 s w _ fun F2 H2 vs s2 w2 ⟨v, us, e1, h1, u, us2, e2, h2, e3⟩ => by
    subst e1 e2 e3
    refine ⟨small_of (by simp), fun p hp => ?_⟩
    exact q _ _ _ (s2.trans (same_new (w2.noF hp))) (w2.newF hp) ⟨p, v, u, rfl, upd_same, Mono.mono (same_new (w2.noF hp)) h1, Mono.mono (same_new (w2.noF hp)) h2⟩)
theorem ev_t3 {γ : Type} {t : Rep γ} {a b c : Expr} {x : α} {y : β} {z : γ} {x1} [m : Mono r] [n : Mono s] [k : Mono t] (ha : EvF X a σ F M r x) (hb : EvF X b σ F M s y) (hc : EvF X c σ F M t z) (hs : starEach [a, b, c] X.env = (false, eval a X.env) :: starEach [b, c] X.env := by rfl)
    (hs1 : starEach [b, c] X.env = (false, eval b X.env) :: starEach [c] X.env := by rfl) (hs2 : starEach [c] X.env = (false, eval c X.env) :: starEach [] X.env := by rfl) :
    EvF X (.Tuple [a, b, c] x1 pos) σ F M (t3R r s t) (x, y, z) :=
  fun F1 H1 s w Q q => we_of (pe_tup (pa_w [a, b, c])) (ea_cons ha (ea_cons hb (ea_cons hc ea_nil hs2) hs1) hs F1 H1 s w _ fun F2 H2 vs s2 w2 ⟨v, us, e1, h1, u, us2, e2, h2, u3, us3, e3, h3, e4⟩ => by
    subst e1 e2 e3 e4
    refine ⟨small_of (by simp), fun p hp => ?_⟩
    exact q _ _ _ (s2.trans (same_new (w2.noF hp))) (w2.newF hp) ⟨p, v, u, u3, rfl, upd_same, Mono.mono (same_new (w2.noF hp)) h1, Mono.mono (same_new (w2.noF hp)) h2, Mono.mono (same_new (w2.noF hp)) h3⟩)
end
end Y

namespace Y
open PySem PySem.Spec PyProof.Rows L2
section
variable {X : Cx} {σ : L2.St} {F M : Hp} {a b c e : Expr} {pos p : Pos} {α β γ : Type} {r : Rep α} {s : Rep β} {t : Rep γ} {x n : Str}

/-! ### built-ins that are called by name -/
theorem ev_len {xs : List α} (hm : X.mg "len" = none) (ha : EvF X a σ F M (rdR X.K M r) xs) (hg : Gl X "len" := by rfl) (he : starEach [a] X.env = (false, eval a X.env) :: starEach [] X.env := by rfl) (hpl : (backTo pos (starEach [] X.env)).any (·.1) = false := by rfl) :
    EvF X (.Call (.Name "len" p) [a] [] pos) σ F M iR (xs.length : Int) :=
  fun F1 H1 s w Q q => we_of (pe_callB call_len_seq hg hm PySem.boot_len (pa_cons (pe_w a) pa_nil he) (he := he) (hpl := hpl)) (ha F1 H1 s w _ fun F2 H2 v s2 w2 ⟨l, vs, e, hl, h2⟩ =>
    ⟨l, vs, by rw [e], .inl (w2.sq hl), q F2 H2 _ s2 w2 (by show V.int _ = V.int _; rw [h2.len])⟩)
/-- list(xs): a new one -/
theorem en_list {xs : List α} [m : Mono r] (hm : X.mg "list" = none) (ha : EvF X a σ F M (rdR X.K M r) xs) (hg : Gl X "list" := by rfl) (he : starEach [a] X.env = (false, eval a X.env) :: starEach [] X.env := by rfl) (hpl : (backTo pos (starEach [] X.env)).any (·.1) = false := by rfl) :
    EvN X (.Call (.Name "list" p) [a] [] pos) σ F M r xs :=
  fun F1 H1 s w Q q => we_of (pe_callTy call_list_of hg hm (by decide +kernel) (pa_cons (pe_w a) pa_nil he) (he := he) (hpl := hpl)) (ha F1 H1 s w _ fun F2 H2 v s2 w2 ⟨l, vs, e, hl, h2⟩ =>
    ⟨l, vs, by rw [e], .inl (w2.sq hl), fun l hp => q F2 _ l vs s2 ⟨same_in w2.f (w2.noF hp), same_in w2.m (w2.noM hp), w2.d, w2.t⟩ (w2.noF hp) (w2.noM hp) upd_same h2⟩)
theorem ev_max2 {i j : Int} (hc : X.calm = true) (hm : X.mg "max" = none) (ha : EvF X a σ F M iR i) (hb : EvF X b σ F M iR j) (hg : Gl X "max" := by rfl) (he : starEach [a, b] X.env = (false, eval a X.env) :: starEach [b] X.env := by rfl) (he2 : starEach [b] X.env = (false, eval b X.env) :: starEach [] X.env := by rfl) (hpl : (backTo pos (starEach [b] X.env)).any (·.1) = false := by rfl) :
    EvF X (.Call (.Name "max" p) [a, b] [] pos) σ F M iR (max i j) :=
  fun F1 H1 s w Q q => we_of (pe_callB (call_max2 hc) hg hm (by decide +kernel) (pa_cons (pe_w a) (pa_cons (pe_w b) pa_nil he2) he) (he := he) (hpl := hpl)) (ha F1 H1 s w _ fun F2 H2 v s2 w2 hv => hb F2 H2 (s.trans s2) w2 _ fun F3 H3 u s3 w3 hu =>
    ⟨i, j, by rw [show v = V.int i from hv, show u = V.int j from hu], q F3 H3 _ (s2.trans s3) w3 (by show V.int _ = V.int _; congr 1; rw [Int.max_def]; split <;> split <;> omega)⟩)
end

/-! ### statements -/
section
variable {X : Cx} {σ σ' : L2.St} {F M H : Hp} {a b c e : Expr} {pos p : Pos} {α β γ : Type} {r : Rep α} {n : Str} {rest : List Stmt} {D : Ends}
theorem ss_nil (h : D.nx σ H) : WSs X [] D σ H := wss_nil h
theorem ss_set (i : Nat) {Φ : Hp → V → Prop} (he : Ev X e σ F M Φ) (w : Own F M H) (k : ∀ F2 H2 v, Same F F2 → Own F2 M H2 → Φ F2 v → WSs X rest D (σ.set i (some v)) H2)
    (hN : X.N.Nodup) (hi : X.N[i]? = some n := by rfl) (hx : Loc X.env.scope n := by first | exact Or.inl rfl | exact Or.inr rfl) (hs : swapsWith e (some (.Name n p)) pos.line X.env = pure false := by rfl) (hf : X.fn n = true ∨ X.env.scope.names.lookup n = some .local := by first | exact .inl rfl | exact .inr rfl) :
    WSs X (.Assign [.Name n p] e pos :: rest) D σ H :=
  wss_cons (ws_of (ps_set hN hi hx (pe_w e) hs hf) (he F H (Same.refl _) w _ fun F2 H2 v s2 w2 hv => k F2 H2 v s2 w2 hv))
/-- a number, a truth: what stands for good need not grow -/
theorem ss_setI (i : Nat) {x : Int} (he : EvF X e σ F M iR x) (w : Own F M H) (k : ∀ H2, Own F M H2 → WSs X rest D (σ.set i (some (.int x))) H2)
    (hN : X.N.Nodup) (hi : X.N[i]? = some n := by rfl) (hx : Loc X.env.scope n := by first | exact Or.inl rfl | exact Or.inr rfl) (hs : swapsWith e (some (.Name n p)) pos.line X.env = pure false := by rfl) (hf : X.fn n = true ∨ X.env.scope.names.lookup n = some .local := by first | exact .inl rfl | exact .inr rfl) :
    WSs X (.Assign [.Name n p] e pos :: rest) D σ H :=
  ss_set i he w (fun F2 H2 v s2 w2 hv => by cases (show v = V.int x from hv); exact k H2 (w2.lessF s2)) hN hi hx hs hf
/-- a new list, to be one's own -/
theorem ss_setN (i : Nat) {xs : List α} (he : EvN X e σ F M r xs) (w : Own F M H) (k : ∀ F2 H2 l vs, Same F F2 → M l = none → Own F2 (upd M l (.lst vs)) H2 → A2 (r F2) vs xs → WSs X rest D (σ.set i (some (.ref l))) H2)
    (hN : X.N.Nodup) (hi : X.N[i]? = some n := by rfl) (hx : Loc X.env.scope n := by first | exact Or.inl rfl | exact Or.inr rfl) (hs : swapsWith e (some (.Name n p)) pos.line X.env = pure false := by rfl) (hf : X.fn n = true ∨ X.env.scope.names.lookup n = some .local := by first | exact .inl rfl | exact .inr rfl) :
    WSs X (.Assign [.Name n p] e pos :: rest) D σ H :=
  wss_cons (ws_of (ps_set hN hi hx (pe_w e) hs hf) (he F H (Same.refl _) w _ fun F2 H2 l vs s2 w2 n1 n2 hh h2 => k F2 H2 l vs s2 n2 (w2.keepM n1 n2 hh) h2))
theorem ss_ret {Φ : Hp → V → Prop} (he : Ev X e σ F M Φ) (w : Own F M H) (k : ∀ F2 H2 v, Same F F2 → Own F2 M H2 → Φ F2 v → D.rt v H2) : WSs X (.Return (some e) pos :: rest) D σ H :=
  wss_cons (ws_of (ps_ret (pe_w e)) (he F H (Same.refl _) w _ fun F2 H2 v s2 w2 hv => k F2 H2 v s2 w2 hv))
theorem ss_if {th el : List Stmt} {k : Bool} (hc : Bx X c σ F M k) (w : Own F M H) (h1 : k = true → ∀ H2, Own F M H2 → WSs X th (thn X rest D) σ H2) (h2 : k = false → ∀ H2, Own F M H2 → WSs X el (thn X rest D) σ H2) :
    WSs X (.If c th el pos :: rest) D σ H :=
  wss_cons (ws_of (ps_if (pt_w c) (pss_w th) (pss_w el)) (hc.2 F H (Same.refl _) w _ fun F2 H2 s2 w2 => by
    cases k with
    | true => exact h1 rfl H2 (w2.lessF s2)
    | false => exact h2 rfl H2 (w2.lessF s2)))
theorem ss_append {l : Addr} {vs : List V} {x : α} (i : Nat) {cpos apos npos : Pos} (hs : σ[i]? = some (some (.ref l))) (hM : M l = some (.lst vs)) (he : EvF X e σ F M r x) (w : Own F M H) (hz : vs.length < 1000000)
    (k : ∀ F2 M2 H2 v, Same F F2 → M2 = upd M l (.lst (vs ++ [v])) → Own F2 M2 H2 → r F2 v x → WSs X rest D σ H2) (hN : X.N[i]? = some n := by rfl)
    (hv : Vis X.env.scope n := by first | exact Or.inl rfl | exact Or.inr (Or.inl rfl) | exact Or.inr (Or.inr rfl)) (hd : (n == ("__debug__" : Str)) = false := by decide) (hcd : (n == ("__classdict__" : Str)) = false := by decide)
    (hbase : attributeBase (.Name n npos) "append" X.env (eval (.Name n npos) X.env) = eval (.Name n npos) X.env := by rfl)
    (hfew : ((backTo cpos (starEach [e] X.env)).all (fun x => !x.1) && (backToKw cpos (keywordEach [] X.env)).all (fun x => x.1.isSome)
      && decide ([e].length + ([] : List Keyword).length + (if ([] : List Keyword).isEmpty then 0 else 1) < 30)) = true := by rfl)
    (hline : (apos.endLine == cpos.line) = true := by rfl) (hst : starEach [e] X.env = (false, eval e X.env) :: starEach [] X.env := by rfl) (hplain : (backTo cpos (starEach [] X.env)).any (·.1) = false := by rfl)
    (hsw : swapsWith (.Call (.Attribute (.Name n npos) "append" apos) [e] [] cpos) none pos.line X.env = pure false := by rfl) :
    WSs X (.Expr (.Call (.Attribute (.Name n npos) "append" apos) [e] [] cpos) pos :: rest) D σ H :=
  wss_cons (ws_of (ps_expr (pe_bm PySem.F.plainAttrs_list PySem.F.slot_list_append PySem.F.type_list_append mt_append (pe_var hN hv hd hcd) (pa_cons (pe_w e) pa_nil hst) hbase hfew hline hst hplain) hsw)
    ⟨_, hs, .inl ⟨rfl, _, SqL.of (w.m _ _ hM)⟩, he F H (Same.refl _) w _ fun F2 H2 v s2 w2 hv => ⟨l, vs, v, rfl, rfl, w2.m _ _ hM, Nat.lt_of_lt_of_le hz (by decide), k F2 _ _ v s2 rfl (w2.put hM) hv⟩⟩)

/-! ### what is walked -/
def WI (X : Cx) (tg it : Expr) : TI := fun σ H R => ∀ (pins : List (Addr × Obj)) (s : Shared), Inv X pins σ H s →
  wpAny (model X.prog X.w) X.A (eval it X.env) (fun v s1 => wpAny (model X.prog X.w) X.A (pyIter v) (PIE X pins σ tg R) X.xe s1) X.xe s
theorem pi_w (tg it : Expr) : PI X tg it (WI X tg it) := ⟨fun pins s σ H R I h => h pins s I⟩
theorem wi_of {tg it : Expr} {wi : TI} {R : It → Hp → Prop} (p : PI X tg it wi) (h : wi σ H R) : WI X tg it σ H R := fun pins s I => p.run pins s σ H R I h
/-- an iterator that gives these things, whatever is done meanwhile -/
def Yields (F0 : Hp) (J : It) {α : Type} (r : Rep α) (xs : List α) : Prop :=
  ∀ i F M H, Same F0 F → Own F M H → (xs.length ≤ i → J.stop i H) ∧ ∀ x, xs[i]? = some x → J.go i H ∧ ∀ v H', J.yld i H v H' → ∃ F', Same F F' ∧ Own F' M H' ∧ r F' v x
def EvI (X : Cx) (tg it : Expr) (σ : L2.St) (F M : Hp) {α : Type} (r : Rep α) (xs : List α) : Prop :=
  ∀ F1 H1, Same F F1 → Own F1 M H1 → ∀ R : It → Hp → Prop, (∀ F2 H2 J, Same F1 F2 → Own F2 M H2 → Yields F2 J r xs → R J H2) → WI X tg it σ H1 R
theorem ei_list {tg it : Expr} {xs : List α} [m : Mono r] (he : EvF X it σ F M (rsR X.K r) xs) : EvI X tg it σ F M r xs :=
  fun F1 H1 s w R q => wi_of (pi_list (pe_w it)) (he F1 H1 s w _ fun F2 H2 v s2 w2 ⟨l, vs, e, hl, h2⟩ => ⟨l, e, ⟨vs, Same.sql w2.f hl⟩, q F2 H2 _ s2 w2 fun i F3 M3 H3 s3 w3 =>
    ⟨fun hi => ⟨vs, Same.sql w3.f (Same.sql s3 hl), by rw [h2.len]; exact hi⟩, fun x hx => by
      obtain ⟨u, hu, hr⟩ := h2.get hx
      refine ⟨⟨vs, u, Same.sql w3.f (Same.sql s3 hl), hu⟩, fun v' H' hy => ?_⟩
      obtain ⟨rfl, hy⟩ := hy
      have e2 := hy vs (Same.sql w3.f (Same.sql s3 hl))
      rw [hu] at e2
      cases e2
      exact ⟨F3, Same.refl _, w3, Mono.mono s3 hr⟩⟩⟩)
/-- lo, lo + 1, .., so many -/
def rng (lo : Int) (n : Nat) : List Int := (List.range n).map fun (i : Nat) => lo + i
theorem rng_len {lo : Int} {n : Nat} : (rng lo n).length = n := by unfold rng; simp
theorem rng_get {lo : Int} {n i : Nat} : (rng lo n)[i]? = if i < n then some (lo + (i : Int)) else none := by
  unfold rng
  rw [List.getElem?_map]
  by_cases h : i < n
  · rw [if_pos h, List.getElem?_range h]; rfl
  · rw [if_neg h, List.getElem?_eq_none (by simpa using h)]; rfl
theorem rng_at {lo : Int} {n i : Nat} {k : Int} (h : (rng lo n)[i]? = some k) : i < n ∧ k = lo + (i : Int) := by
  rw [rng_get] at h
  by_cases hh : i < n
  · rw [if_pos hh] at h; cases h; exact ⟨hh, rfl⟩
  · rw [if_neg hh] at h; cases h
theorem rng_mem {lo : Int} {n : Nat} {k : Int} (h : k ∈ rng lo n) : lo ≤ k ∧ k < lo + n := by
  obtain ⟨i, hi⟩ := List.getElem?_of_mem h
  obtain ⟨h1, h2⟩ := rng_at hi
  omega
theorem yields_r {F : Hp} {lo : Int} {n : Nat} : Yields F (Itr lo n) iR (rng lo n) := fun i F3 M3 H3 s3 w3 =>
  ⟨fun hi => by rw [rng_len] at hi; exact hi, fun x hx => by
    rw [rng_get] at hx
    by_cases h : i < n
    · rw [if_pos h] at hx
      cases hx
      refine ⟨h, fun v H' hy => ?_⟩
      obtain ⟨rfl, rfl⟩ := hy
      exact ⟨F3, Same.refl _, w3, rfl⟩
    · rw [if_neg h] at hx; cases hx⟩
theorem ei_range1 {tg : Expr} {j : Int} (hm : X.mg "range" = none) (ha : EvF X a σ F M iR j) (hj : -(2 ^ 62) ≤ j ∧ j < 2 ^ 62) (hg : Gl X "range" := by rfl) (hs : starEach [a] X.env = [(false, eval a X.env)] := by rfl) (hs2 : starEach [a] X.env = (false, eval a X.env) :: starEach [] X.env := by rfl) :
    EvI X tg (.Call (.Name "range" p) [a] [] pos) σ F M iR (rng 0 j.toNat) :=
  fun F1 H1 s w R q => wi_of (pi_range1 hg hm (pa_cons (pe_w a) pa_nil hs2) hs) (ha F1 H1 s w _ fun F2 H2 v s2 w2 hv => ⟨j, by rw [show v = V.int j from hv], hj.1, hj.2, q F2 H2 _ s2 w2 yields_r⟩)
theorem ei_range2 {tg : Expr} {i j : Int} (hm : X.mg "range" = none) (ha : EvF X a σ F M iR i) (hb : EvF X b σ F M iR j) (hj : -(2 ^ 62) ≤ i ∧ i < 2 ^ 62 ∧ -(2 ^ 62) ≤ j ∧ j < 2 ^ 62) (hg : Gl X "range" := by rfl) (hs : starEach [a, b] X.env = [(false, eval a X.env), (false, eval b X.env)] := by rfl) (hs2 : starEach [b] X.env = [(false, eval b X.env)] := by rfl) :
    EvI X tg (.Call (.Name "range" p) [a, b] [] pos) σ F M iR (rng i (j - i).toNat) :=
  fun F1 H1 s w R q => wi_of (pi_range2 hg hm (pa_cons (pe_w a) (pa_cons (pe_w b) pa_nil (by rw [hs2]; rfl)) (by rw [hs, hs2])) hs hs2) (ha F1 H1 s w _ fun F2 H2 v s2 w2 hv => hb F2 H2 (s.trans s2) w2 _ fun F3 H3 u s3 w3 hu =>
    ⟨i, j, by rw [show v = V.int i from hv, show u = V.int j from hu], hj, q F3 H3 _ (s2.trans s3) w3 yields_r⟩)

/-! ### for -/
/-- the ends of a loop's body: N behind a turn; behind the loop what stands there -/
def lpe (X : Cx) (rest : List Stmt) (D : Ends) (N : L2.St → Hp → Prop) : Ends := { D with nx := N, ct := N, bk := WSs X rest D }
def Nx (F : Hp) (I : Nat → Hp → Hp → L2.St → Prop) (i : Nat) : L2.St → Hp → Prop := fun σ H => ∃ F2 M2, Same F F2 ∧ Own F2 M2 H ∧ I i F2 M2 σ
theorem ss_for_core {tg it : Expr} {body : List Stmt} {g : TG} {xs : List α} (he : EvI X tg it σ F M r xs) (w : Own F M H) (I : Nat → Hp → Hp → L2.St → Prop) (hg : PG X tg g)
    (h0 : ∀ F1, Same F F1 → I 0 F1 M σ)
    (hs : ∀ F0 i x v F1 M1 H1 σ1, Same F F0 → xs[i]? = some x → (∀ F2, Same F1 F2 → I i F2 M1 σ1) → Same F0 F1 → Own F1 M1 H1 → r F1 v x → g v σ1 H1 fun σ2 H2 => WSs X body (lpe X rest D (Nx F0 I (i + 1))) σ2 H2)
    (hd : ∀ F1 M1 H1 σ1, Same F F1 → Own F1 M1 H1 → I xs.length F1 M1 σ1 → WSs X rest D σ1 H1)
    (up : ∀ i F1 F2 M1 σ1, Same F1 F2 → I i F1 M1 σ1 → I i F2 M1 σ1)
    (hp : PassesOwn (model X.prog X.w) X.A X.env X.xe) (hc : X.calm = true := by rfl) (hf : ∀ x, foldedSetIterable it X.env x = pure x := by intro _; rfl) :
    WSs X (.For tg it body [] pos :: rest) D σ H := by
  refine wss_cons (ws_of (ps_for hp hc (pi_w tg it) hg (pss_w body) hf) (he F H (Same.refl _) w _ fun F2 H2 J s2 w2 hy => ?_))
  refine ⟨fun i m σ' H' => m = xs.length - i ∧ i ≤ xs.length ∧ Nx F2 I i σ' H', ⟨xs.length, by simp, Nat.zero_le _, F2, M, Same.refl _, w2, h0 F2 s2⟩, ?_⟩
  rintro i m σ' H' ⟨rfl, hi, F3, M3, s3, w3, hI⟩
  obtain ⟨y1, y2⟩ := hy i F3 M3 H' s3 w3
  by_cases hlt : i < xs.length
  · obtain ⟨g1, g2⟩ := y2 xs[i] (by simp [hlt])
    refine .inr ⟨g1, Nx F2 I (i + 1), fun σ4 H4 n4 => ⟨xs.length - (i + 1), by omega, rfl, hlt, n4⟩, fun v H4 hv => ?_⟩
    obtain ⟨F4, s4, w4, hr⟩ := g2 v H4 hv
    exact hs F2 i xs[i] v F4 M3 H4 σ' s2 (by simp [hlt]) (fun F5 s5 => up i F3 F5 M3 σ' (s4.trans s5) hI) (s3.trans s4) w4 hr
  · have e : i = xs.length := by omega
    subst e
    exact .inl ⟨y1 (Nat.le_refl _), hd F3 M3 H' σ' (s2.trans s3) w3 hI⟩
/-- for x in ..: x in slot j -/
theorem ss_for (j : Nat) {it : Expr} {body : List Stmt} {xs : List α} (he : EvI X (.Name n p) it σ F M r xs) (w : Own F M H) (I : Nat → Hp → Hp → L2.St → Prop)
    (h0 : ∀ F1, Same F F1 → I 0 F1 M σ) (up : ∀ i F1 F2 M1 σ1, Same F1 F2 → I i F1 M1 σ1 → I i F2 M1 σ1)
    (hs : ∀ F0 i x v F1 M1 H1 σ1, Same F F0 → xs[i]? = some x → I i F1 M1 σ1 → Same F0 F1 → Own F1 M1 H1 → r F1 v x → WSs X body (lpe X rest D (Nx F0 I (i + 1))) (σ1.set j (some v)) H1)
    (hd : ∀ F1 M1 H1 σ1, Same F F1 → Own F1 M1 H1 → I xs.length F1 M1 σ1 → WSs X rest D σ1 H1)
    (hp : PassesOwn (model X.prog X.w) X.A X.env X.xe) (hN : X.N.Nodup) (hi : X.N[j]? = some n := by rfl) (hx : Loc X.env.scope n := by first | exact Or.inl rfl | exact Or.inr rfl)
    (hfn : X.fn n = true ∨ X.env.scope.names.lookup n = some .local := by first | exact .inl rfl | exact .inr rfl) (hc : X.calm = true := by rfl) (hf : ∀ x, foldedSetIterable it X.env x = pure x := by intro _; rfl) :
    WSs X (.For (.Name n p) it body [] pos :: rest) D σ H :=
  ss_for_core he w I (pg_name hN hi hx hfn) h0 (fun F0 i x v F1 M1 H1 σ1 s0 hx hI s1 w1 hr => hs F0 i x v F1 M1 H1 σ1 s0 hx (hI F1 (Same.refl _)) s1 w1 hr) hd up hp hc hf
theorem ss_for2 {β γ : Type} {r1 : Rep β} {r2 : Rep γ} (j k : Nat) {n2 : Str} {p2 p3 : Pos} {ki} {it : Expr} {body : List Stmt} {xs : List (β × γ)} (he : EvI X (.Tuple [.Name n p, .Name n2 p2] ki p3) it σ F M (t2R r1 r2) xs) (w : Own F M H) (I : Nat → Hp → Hp → L2.St → Prop)
    (h0 : ∀ F1, Same F F1 → I 0 F1 M σ) (up : ∀ i F1 F2 M1 σ1, Same F1 F2 → I i F1 M1 σ1 → I i F2 M1 σ1)
    (hs : ∀ F0 i x y u v F1 M1 H1 σ1, Same F F0 → xs[i]? = some (x, y) → I i F1 M1 σ1 → Same F0 F1 → Own F1 M1 H1 → r1 F1 u x → r2 F1 v y → WSs X body (lpe X rest D (Nx F0 I (i + 1))) ((σ1.set j (some u)).set k (some v)) H1)
    (hd : ∀ F1 M1 H1 σ1, Same F F1 → Own F1 M1 H1 → I xs.length F1 M1 σ1 → WSs X rest D σ1 H1)
    (hp : PassesOwn (model X.prog X.w) X.A X.env X.xe) (hN : X.N.Nodup) (hi : X.N[j]? = some n := by rfl) (hx : Loc X.env.scope n := by first | exact Or.inl rfl | exact Or.inr rfl) (hi2 : X.N[k]? = some n2 := by rfl) (hx2 : Loc X.env.scope n2 := by first | exact Or.inl rfl | exact Or.inr rfl)
    (hfn : X.fn n = true ∨ X.env.scope.names.lookup n = some .local := by first | exact .inl rfl | exact .inr rfl) (hfn2 : X.fn n2 = true ∨ X.env.scope.names.lookup n2 = some .local := by first | exact .inl rfl | exact .inr rfl)
    (hc : X.calm = true := by rfl) (hf : ∀ x, foldedSetIterable it X.env x = pure x := by intro _; rfl)
    (q1 : (assignEach [.Name n p, .Name n2 p2] X.env).map (·.2) = assign (.Name n p) X.env :: (assignEach [.Name n2 p2] X.env).map (·.2) := by rfl) (q2 : (assignEach [.Name n2 p2] X.env).map (·.2) = assign (.Name n2 p2) X.env :: (assignEach [] X.env).map (·.2) := by rfl)
    (q3 : (assignEach [.Name n p, .Name n2 p2] X.env).length = 2 := by rfl) (q4 : (assignEach [.Name n p, .Name n2 p2] X.env).findIdx? (·.1) = none := by rfl) :
    WSs X (.For (.Tuple [.Name n p, .Name n2 p2] ki p3) it body [] pos :: rest) D σ H :=
  ss_for_core he w I (pg_tup hc (pgs_cons (pg_name hN hi hx hfn) (pgs_cons (pg_name hN hi2 hx2 hfn2) pgs_nil q2) q1) q3 q4) h0 (fun F0 i x v F1 M1 H1 σ1 s0 hx hI s1 w1 ⟨l, u1, u2, e, hl, h1, h2⟩ =>
    ⟨l, _, e, SqT.of (w1.f _ _ hl), rfl, u1, _, rfl, u2, _, rfl, rfl, hs F0 i x.1 x.2 u1 u2 F1 M1 H1 σ1 s0 hx (hI F1 (Same.refl _)) s1 w1 h1 h2⟩) hd up hp hc hf
theorem ss_for3 {β γ δ : Type} {r1 : Rep β} {r2 : Rep γ} {r3 : Rep δ} (j k l : Nat) {n2 n3 : Str} {p2 p3 p4 : Pos} {ki} {it : Expr} {body : List Stmt} {xs : List (β × γ × δ)} (he : EvI X (.Tuple [.Name n p, .Name n2 p2, .Name n3 p3] ki p4) it σ F M (t3R r1 r2 r3) xs) (w : Own F M H) (I : Nat → Hp → Hp → L2.St → Prop)
    (h0 : ∀ F1, Same F F1 → I 0 F1 M σ) (up : ∀ i F1 F2 M1 σ1, Same F1 F2 → I i F1 M1 σ1 → I i F2 M1 σ1)
    (hs : ∀ F0 i x y z u v t F1 M1 H1 σ1, Same F F0 → xs[i]? = some (x, y, z) → I i F1 M1 σ1 → Same F0 F1 → Own F1 M1 H1 → r1 F1 u x → r2 F1 v y → r3 F1 t z → WSs X body (lpe X rest D (Nx F0 I (i + 1))) (((σ1.set j (some u)).set k (some v)).set l (some t)) H1)
    (hd : ∀ F1 M1 H1 σ1, Same F F1 → Own F1 M1 H1 → I xs.length F1 M1 σ1 → WSs X rest D σ1 H1)
    (hp : PassesOwn (model X.prog X.w) X.A X.env X.xe) (hN : X.N.Nodup) (hi : X.N[j]? = some n := by rfl) (hx : Loc X.env.scope n := by first | exact Or.inl rfl | exact Or.inr rfl) (hi2 : X.N[k]? = some n2 := by rfl) (hx2 : Loc X.env.scope n2 := by first | exact Or.inl rfl | exact Or.inr rfl) (hi3 : X.N[l]? = some n3 := by rfl) (hx3 : Loc X.env.scope n3 := by first | exact Or.inl rfl | exact Or.inr rfl)
    (hfn : X.fn n = true ∨ X.env.scope.names.lookup n = some .local := by first | exact .inl rfl | exact .inr rfl) (hfn2 : X.fn n2 = true ∨ X.env.scope.names.lookup n2 = some .local := by first | exact .inl rfl | exact .inr rfl) (hfn3 : X.fn n3 = true ∨ X.env.scope.names.lookup n3 = some .local := by first | exact .inl rfl | exact .inr rfl)
    (hc : X.calm = true := by rfl) (hf : ∀ x, foldedSetIterable it X.env x = pure x := by intro _; rfl)
    (q1 : (assignEach [.Name n p, .Name n2 p2, .Name n3 p3] X.env).map (·.2) = assign (.Name n p) X.env :: (assignEach [.Name n2 p2, .Name n3 p3] X.env).map (·.2) := by rfl) (q2 : (assignEach [.Name n2 p2, .Name n3 p3] X.env).map (·.2) = assign (.Name n2 p2) X.env :: (assignEach [.Name n3 p3] X.env).map (·.2) := by rfl) (q2' : (assignEach [.Name n3 p3] X.env).map (·.2) = assign (.Name n3 p3) X.env :: (assignEach [] X.env).map (·.2) := by rfl)
    (q3 : (assignEach [.Name n p, .Name n2 p2, .Name n3 p3] X.env).length = 3 := by rfl) (q4 : (assignEach [.Name n p, .Name n2 p2, .Name n3 p3] X.env).findIdx? (·.1) = none := by rfl) :
    WSs X (.For (.Tuple [.Name n p, .Name n2 p2, .Name n3 p3] ki p4) it body [] pos :: rest) D σ H :=
  ss_for_core he w I (pg_tup hc (pgs_cons (pg_name hN hi hx hfn) (pgs_cons (pg_name hN hi2 hx2 hfn2) (pgs_cons (pg_name hN hi3 hx3 hfn3) pgs_nil q2') q2) q1) q3 q4) h0 (fun F0 i x v F1 M1 H1 σ1 s0 hx hI s1 w1 ⟨l', u1, u2, u3, e, hl, h1, h2, h3⟩ =>
    ⟨l', _, e, SqT.of (w1.f _ _ hl), rfl, u1, _, rfl, u2, _, rfl, u3, _, rfl, rfl, hs F0 i x.1 x.2.1 x.2.2 u1 u2 u3 F1 M1 H1 σ1 s0 hx (hI F1 (Same.refl _)) s1 w1 h1 h2 h3⟩) hd up hp hc hf
end
end Y

namespace Y
open PySem PySem.Spec PyProof.Rows L2
/-! ### comprehensions -/
section
variable {X : Cx} {σ : L2.St} {F M : Hp} {a b c e : Expr} {pos p : Pos} {α β γ δ : Type} {r : Rep α} {s : Rep β} {n : Str}
/-- the context of a comprehension's block -/
def Blk (X : Cx) (scope : Scope) (Y : Cx) : Prop := ∃ (s : Shared) (H : Hp) (C : Addr) (cl : List (Str × Addr)) (fp : List Addr), Y = X.blk s H scope (compEnvC scope cl C X.env) fp
def wTs (X : Cx) (scope : Scope) (ifs : List Expr) : TT := fun σ H Q => ∀ Y, Blk X scope Y → WTs Y ifs σ H Q
def wE (X : Cx) (scope : Scope) (elt : Expr) : TE := fun σ H Q => ∀ Y, Blk X scope Y → WE Y elt σ H Q
theorem lc_run {Fb : Hp} (hb : Sub F Fb) {elt tg iter : Expr} {ifs : List Expr} {scope : Scope} (own : List (Str × Nat)) {g : TG} {xs : List α} [m : Mono s] (pr : α → Bool) (f : α → β)
    (hi : EvI X tg iter σ Fb M r xs)
    (ht : ∀ x v F1 M1 H1, x ∈ xs → Sub F F1 → Same M M1 → Own F1 M1 H1 → r F1 v x → ∀ R : L2.St → Hp → Prop, (∀ σ2, wipe σ2 (own.map (·.2)) = wipe σ (own.map (·.2)) → (∀ Y, Blk X scope Y → EvTs Y ifs σ2 F1 M1 (pr x)) → (pr x = true → ∀ Y, Blk X scope Y → EvF Y elt σ2 F1 M1 s (f x)) → R σ2 H1) → g v (wipe σ (own.map (·.2))) H1 R)
    (hl : xs.length < 1000000)
    {F1 H1 : Hp} (s1 : Same Fb F1) (w1 : Own F1 M H1) {Q : VK} (q : ∀ F2 H2 a vs, Same F1 F2 → Own F2 M H2 → F2 a = none → M a = none → H2 a = some (.lst vs) → A2 (s F2) vs ((xs.filter pr).map f) → Q (.ref a) H2) :
    tLc (WI X tg iter) g (wTs X scope ifs) (wE X scope elt) (own.map (·.2)) σ H1 Q := by
  refine hi F1 H1 s1 w1 _ fun F2 H2 J s2 w2 hy => ?_
  intro D hD
  have nF := w2.noF hD
  have nM := w2.noM hD
  refine ⟨fun i k H' => k = xs.length - i ∧ i ≤ xs.length ∧ ∃ F' acc, Same F2 F' ∧ Own F' (upd M D (.lst acc)) H' ∧ acc.length ≤ i ∧ A2 (s F') acc (((xs.take i).filter pr).map f),
    ⟨xs.length, by simp, Nat.zero_le _, F2, [], Same.refl _, w2.newM hD, Nat.le_refl _, by simpa using A2.nil⟩, ?_⟩
  rintro i k H' ⟨rfl, hi2, F3, acc, s3, w3, hla, hA⟩
  obtain ⟨y1, y2⟩ := hy i F3 _ H' s3 w3
  by_cases hlt : i < xs.length
  · have hget : xs[i]? = some xs[i] := by simp [hlt]
    obtain ⟨g1, g2⟩ := y2 xs[i] hget
    have htk : xs.take (i + 1) = xs.take i ++ [xs[i]] := by rw [List.take_add_one, hget]; rfl
    refine .inr ⟨g1, fun H5 => ∃ F' acc, Same F2 F' ∧ Own F' (upd M D (.lst acc)) H5 ∧ acc.length ≤ i + 1 ∧ A2 (s F') acc (((xs.take (i + 1)).filter pr).map f), ?_, fun v H4 hv => ?_⟩
    · rintro H5 ⟨F', acc', z⟩
      exact ⟨xs.length - (i + 1), by omega, rfl, hlt, F', acc', z⟩
    · obtain ⟨F4, s4, w4, hr⟩ := g2 v H4 hv
      refine ht xs[i] v F4 _ H4 (List.getElem_mem hlt) (hb.trans (Same.sub (((s1.trans s2).trans s3).trans s4))) (same_in (Same.refl M) nM) w4 hr _ fun σ2 hw h1 h2 => ⟨hw, ?_⟩
      intro Y hY
      refine h1 Y hY F4 H4 (Same.refl _) w4 _ fun F5 H5 s5 w5 => ?_
      cases hp : pr xs[i] with
      | false =>
        rw [if_neg Bool.false_ne_true]
        refine ⟨F5, acc, (s3.trans s4).trans s5, w5, by omega, ?_⟩
        rw [htk, List.filter_append]
        simp only [List.filter_cons, hp, List.filter_nil, Bool.false_eq_true, if_false, List.append_nil]
        exact hA.up (s4.trans s5)
      | true =>
        rw [if_pos rfl]
        intro Y2 hY2
        refine h2 hp Y2 hY2 F5 H5 s5 w5 _ fun F6 H6 u s6 w6 hu => ?_
        have hD6 : H6 D = some (.lst acc) := w6.m _ _ upd_same
        refine ⟨acc, hD6, Nat.lt_of_lt_of_le (show acc.length < 1000000 by omega) (by decide), F6, acc ++ [u], ((s3.trans s4).trans s5).trans s6, ?_, by simp; omega, ?_⟩
        · have := w6.put (p := D) (o := .lst (acc ++ [u])) upd_same
          rw [upd_upd] at this
          exact this
        · rw [htk, List.filter_append, List.map_append]
          simp only [List.filter_cons, hp, List.filter_nil, if_true, List.map_cons, List.map_nil]
          exact (hA.up ((s4.trans s5).trans s6)).push hu
  · have e : i = xs.length := by omega
    subst e
    refine .inl ⟨y1 (Nat.le_refl _), ?_⟩
    rw [List.take_length] at hA
    have wn : Own F3 M H' := w3.lessM (same_in (Same.refl M) nM)
    exact q F3 H' D acc (s2.trans s3) wn (w3.d D _ upd_same) nM (w3.m _ _ upd_same) hA
theorem en_lc_core {elt tg iter : Expr} {ifs : List Expr} {scope : Scope} (own : List (Str × Nat)) {g : TG} {xs : List α} [m : Mono s] (pr : α → Bool) (f : α → β)
    (hi : EvI X tg iter σ F M r xs)
    (hg : ∀ (s : Shared) (H : Hp) (C : Addr) (cl : List (Str × Addr)) (fp : List Addr), PG (X.blk s H scope (compEnvC scope cl C X.env) fp) tg g)
    (ht : ∀ x v F1 M1 H1, x ∈ xs → Sub F F1 → Same M M1 → Own F1 M1 H1 → r F1 v x → ∀ R : L2.St → Hp → Prop, (∀ σ2, wipe σ2 (own.map (·.2)) = wipe σ (own.map (·.2)) → (∀ Y, Blk X scope Y → EvTs Y ifs σ2 F1 M1 (pr x)) → (pr x = true → ∀ Y, Blk X scope Y → EvF Y elt σ2 F1 M1 s (f x)) → R σ2 H1) → g v (wipe σ (own.map (·.2))) H1 R)
    (hl : xs.length < 1000000) (hN : X.N.Nodup) (ok : BlkOk X.N X.env.scope scope own) (hc : X.calm = true := by rfl) (hs : ∀ x, foldedSetIterable iter X.env x = pure x := by intro _; rfl) :
    EvN X (.ListComp elt [⟨tg, iter, ifs, 0⟩] scope pos) σ F M s ((xs.filter pr).map f) := fun F1 H1 s1 w1 Q q =>
  we_of (pe_lc (g := g) (tt := wTs X scope ifs) (te := wE X scope elt) hc hN (pi_w tg iter) ok hg (fun s' H' C cl fp => ⟨fun pins s2 σ2 H2 Q2 I h => h _ ⟨s', H', C, cl, fp, rfl⟩ pins s2 I⟩) (fun s' H' C cl fp => ⟨fun pins s2 σ2 H2 Q2 I h => h _ ⟨s', H', C, cl, fp, rfl⟩ pins s2 I⟩) hs)
    (lc_run (Sub.refl F) own pr f hi ht hl s1 w1 q)
/-- y = [..] on one line, y in slot i, a plain local -/
theorem ss_lc_core (i : Nat) {y : Str} {py : Pos} {D : Ends} {rest : List Stmt} {spos : Pos} {H : Hp} {elt tg iter : Expr} {ifs : List Expr} {scope : Scope} (own : List (Str × Nat)) {g : TG} {xs : List α} [m : Mono s] (pr : α → Bool) (f : α → β)
    (hi : EvI X tg iter σ F M r xs)
    (hg : ∀ (s : Shared) (H : Hp) (C : Addr) (cl : List (Str × Addr)) (fp : List Addr), PG (X.blk s H scope (compEnvC scope cl C X.env) fp) tg g)
    (ht : ∀ x v F1 M1 H1, x ∈ xs → Sub F F1 → Same M M1 → Own F1 M1 H1 → r F1 v x → ∀ R : L2.St → Hp → Prop, (∀ σ2, wipe σ2 (own.map (·.2)) = wipe σ (own.map (·.2)) → (∀ Y, Blk X scope Y → EvTs Y ifs σ2 F1 M1 (pr x)) → (pr x = true → ∀ Y, Blk X scope Y → EvF Y elt σ2 F1 M1 s (f x)) → R σ2 H1) → g v (wipe σ (own.map (·.2))) H1 R)
    (hl : xs.length < 1000000) (hN : X.N.Nodup) (ok : BlkOk X.N X.env.scope scope own) (w : Own F M H)
    (k : ∀ F2 H2 l vs, Same F F2 → M l = none → Own F2 (upd M l (.lst vs)) H2 → A2 (s F2) vs ((xs.filter pr).map f) → WSs X rest D (σ.set i (some (.ref l))) H2)
    (hy : X.N[i]? = some y) (hyl : X.env.scope.names.lookup y = some .local) (hsw : swapsWith (.ListComp elt [⟨tg, iter, ifs, 0⟩] scope pos) (some (.Name y py)) spos.line X.env = pure true)
    (hc : X.calm = true := by rfl) (hs : ∀ x, foldedSetIterable iter X.env x = pure x := by intro _; rfl) :
    WSs X (.Assign [.Name y py] (.ListComp elt [⟨tg, iter, ifs, 0⟩] scope pos) spos :: rest) D σ H :=
  wss_cons (ws_of (ps_setLc (i := i) (g := g) (tt := wTs X scope ifs) (te := wE X scope elt) hc hN hy hyl hsw (pi_w tg iter) ok hg (fun s' H' C cl fp => ⟨fun pins s2 σ2 H2 Q2 I h => h _ ⟨s', H', C, cl, fp, rfl⟩ pins s2 I⟩) (fun s' H' C cl fp => ⟨fun pins s2 σ2 H2 Q2 I h => h _ ⟨s', H', C, cl, fp, rfl⟩ pins s2 I⟩) hs)
    (lc_run (Sub.refl F) own pr f hi ht hl (Same.refl _) w fun F2 H2 l vs s2 w2 n1 n2 hh hA => k F2 H2 l vs s2 n2 (w2.keepM n1 n2 hh) hA))
theorem ets_nil : EvTs X [] σ F M true := fun F1 H1 s w Q q => wts_of pts_nil (q F1 H1 (Same.refl _) w)
theorem ets_one {k : Bool} (h : Bx X c σ F M k) : EvTs X [c] σ F M k := fun F1 H1 s w Q q => wts_of (pts_one (pt_w c)) (h.2 F1 H1 s w Q q)
/-- [elt for x in it if ..], x in slot i -/
theorem en_lc (i : Nat) {elt it : Expr} {ifs : List Expr} {scope : Scope} {xs : List α} [m : Mono s] (pr : α → Bool) (f : α → β)
    (hi : EvI X (.Name n p) it σ F M r xs)
    (ht : ∀ x v F1 M1, x ∈ xs → Sub F F1 → Same M M1 → r F1 v x → ∀ Y, Blk X scope Y → EvTs Y ifs (((wipe σ [i])).set i (some v)) F1 M1 (pr x) ∧ (pr x = true → EvF Y elt ((wipe σ [i]).set i (some v)) F1 M1 s (f x)))
    (hl : xs.length < 1000000) (hN : X.N.Nodup) (hb : blkC X.N X.env.scope scope [(n, i)] = true := by decide +kernel) (hc : X.calm = true := by rfl)
    (hg : ∀ (s : Shared) (H : Hp) (C : Addr) (cl : List (Str × Addr)) (fp : List Addr), PG (X.blk s H scope (compEnvC scope cl C X.env) fp) (.Name n p) (gName i) := by exact fun _ _ _ _ _ => pg_name (by assumption) rfl (Or.inl rfl))
    (hs : ∀ x, foldedSetIterable it X.env x = pure x := by intro _; rfl) :
    EvN X (.ListComp elt [⟨.Name n p, it, ifs, 0⟩] scope pos) σ F M s ((xs.filter pr).map f) :=
  en_lc_core [(n, i)] (g := gName i) pr f hi hg (fun x v F1 M1 H1 hx s1 s2 w hr R k => k _ (by
      show (List.set (List.set (List.set σ i none) i (some v)) i none) = List.set σ i none
      rw [List.set_set, List.set_set]) (fun Y hY => (ht x v F1 M1 hx s1 s2 hr Y hY).1) (fun hp Y hY => (ht x v F1 M1 hx s1 s2 hr Y hY).2 hp)) hl hN (blkOk_by hb) hc hs
/-- y = [elt for x in it if ..]: x in slot i, y in slot j -/
theorem ss_lc (j i : Nat) {y : Str} {py : Pos} {D : Ends} {rest : List Stmt} {spos : Pos} {H : Hp} {elt it : Expr} {ifs : List Expr} {scope : Scope} {xs : List α} [m : Mono s] (pr : α → Bool) (f : α → β)
    (hi : EvI X (.Name n p) it σ F M r xs)
    (ht : ∀ x v F1 M1, x ∈ xs → Sub F F1 → Same M M1 → r F1 v x → ∀ Y, Blk X scope Y → EvTs Y ifs (((wipe σ [i])).set i (some v)) F1 M1 (pr x) ∧ (pr x = true → EvF Y elt ((wipe σ [i]).set i (some v)) F1 M1 s (f x)))
    (hl : xs.length < 1000000) (hN : X.N.Nodup) (w : Own F M H)
    (k : ∀ F2 H2 l vs, Same F F2 → M l = none → Own F2 (upd M l (.lst vs)) H2 → A2 (s F2) vs ((xs.filter pr).map f) → WSs X rest D (σ.set j (some (.ref l))) H2)
    (hy : X.N[j]? = some y := by rfl) (hyl : X.env.scope.names.lookup y = some .local := by rfl) (hsw : swapsWith (.ListComp elt [⟨.Name n p, it, ifs, 0⟩] scope pos) (some (.Name y py)) spos.line X.env = pure true := by exact sw_true rfl rfl rfl (by decide +kernel))
    (hb : blkC X.N X.env.scope scope [(n, i)] = true := by decide +kernel) (hc : X.calm = true := by rfl)
    (hg : ∀ (s : Shared) (H : Hp) (C : Addr) (cl : List (Str × Addr)) (fp : List Addr), PG (X.blk s H scope (compEnvC scope cl C X.env) fp) (.Name n p) (gName i) := by exact fun _ _ _ _ _ => pg_name (by assumption) rfl (Or.inl rfl))
    (hs : ∀ x, foldedSetIterable it X.env x = pure x := by intro _; rfl) :
    WSs X (.Assign [.Name y py] (.ListComp elt [⟨.Name n p, it, ifs, 0⟩] scope pos) spos :: rest) D σ H :=
  ss_lc_core j [(n, i)] (g := gName i) pr f hi hg (fun x v F1 M1 H1 hx s1 s2 w hr R k => k _ (by
      show (List.set (List.set (List.set σ i none) i (some v)) i none) = List.set σ i none
      rw [List.set_set, List.set_set]) (fun Y hY => (ht x v F1 M1 hx s1 s2 hr Y hY).1) (fun hp Y hY => (ht x v F1 M1 hx s1 s2 hr Y hY).2 hp)) hl hN (blkOk_by hb) w k hy hyl hsw hc hs
end

/-! ### subscripts -/
section
variable {X : Cx} {σ : L2.St} {F M : Hp} {a b c e : Expr} {pos p p2 : Pos} {α β γ δ : Type} {r : Rep α} {s : Rep β} {t : Rep γ} {n : Str}
/-- xs[i], from the end for i below 0 -/
def gI [Inhabited α] (xs : List α) (i : Int) : α := (atI xs i).getD default
theorem ixN_some {n : Nat} {i : Int} (h : -(n : Int) ≤ i ∧ i < n) : ∃ j, ixN n i = some j ∧ j < n := by
  unfold ixN
  by_cases h0 : 0 ≤ i
  · rw [if_pos h0, if_pos h.2]
    exact ⟨_, rfl, by omega⟩
  · rw [if_neg h0, if_pos h.1]
    exact ⟨_, rfl, by omega⟩
theorem A2.at [Inhabited α] {pp : V → α → Prop} {vs : List V} {xs : List α} {i : Int} (h : A2 pp vs xs) (hi : -(xs.length : Int) ≤ i ∧ i < xs.length) : ∃ v, atI vs i = some v ∧ pp v (gI xs i) := by
  obtain ⟨j, e, hj⟩ := ixN_some hi
  obtain ⟨v, hv, hp⟩ := h.get (i := j) (b := xs[j]) (by simp [hj])
  refine ⟨v, ?_, ?_⟩
  · unfold atI
    rw [h.len, e]
    exact hv
  · unfold gI atI
    rw [e]
    simpa [hj] using hp
theorem gI_nat [Inhabited α] {xs : List α} {i : Int} (h0 : 0 ≤ i) (h : i < xs.length) : xs[i.toNat]? = some (gI xs i) := by
  unfold gI atI ixN
  rw [if_pos h0, if_pos h]
  have : i.toNat < xs.length := by omega
  simp [this]
theorem gI_mem [Inhabited α] {xs : List α} {i : Int} (h : -(xs.length : Int) ≤ i ∧ i < xs.length) : gI xs i ∈ xs := by
  obtain ⟨j, e, hj⟩ := ixN_some h
  unfold gI atI
  rw [e]
  simp [hj]
theorem gI_last [Inhabited α] {xs : List α} (h : xs ≠ []) : gI xs (-1) = xs.getLast h := by
  have hl : 0 < xs.length := List.length_pos_iff.mpr h
  unfold gI atI ixN
  rw [if_neg (by omega), if_pos (by omega)]
  have e : ((-1 : Int) + (xs.length : Int)).toNat = xs.length - 1 := by omega
  simp only [Option.bind_some, e]
  rw [List.getLast_eq_getElem]
  have : xs.length - 1 < xs.length := by omega
  simp [this]
theorem ev_ix [Inhabited α] {xs : List α} {i : Int} [m : Mono r] (ha : EvF X a σ F M (rdR X.K M r) xs) (hb : EvF X b σ F M iR i) (h : -(xs.length : Int) ≤ i ∧ i < xs.length) (hs : PlainIx b := by exact fun _ _ => rfl) :
    EvF X (.Subscript a b pos) σ F M r (gI xs i) :=
  fun F1 H1 s w Q q => we_of (pe_ix ix_list (pe_w a) (pe_w b) hs) (ha F1 H1 s w _ fun F2 H2 v s2 w2 ⟨l, vs, e, hl, h2⟩ => hb F2 H2 (s.trans s2) w2 _ fun F3 H3 u s3 w3 hu => by
    obtain ⟨z, hz, hr⟩ := h2.at h
    exact ⟨l, vs, i, z, e, hu, w3.sq (hl.imp (fun y => Same.sql s3 y) id), hz, q F3 H3 z (s2.trans s3) w3 (Mono.mono s3 hr)⟩)
theorem ev_t2_0 {x : α × β} {j} {q1} [m : Mono r] (ha : EvF X a σ F M (t2R r s) x) (hs : PlainIx (.Constant (.int 0) j q1) := by exact fun _ _ => rfl) : EvF X (.Subscript a (.Constant (.int 0) j q1) pos) σ F M r x.1 :=
  fun F1 H1 s w Q q => we_of (pe_ix ix_tup (pe_w a) pe_int hs) (ha F1 H1 s w _ fun F2 H2 v s2 w2 ⟨l, u, z, e, hl, h1, h2⟩ => ⟨l, _, 0, u, e, rfl, SqT.of (w2.f _ _ hl), rfl, q F2 H2 _ s2 w2 h1⟩)
theorem ev_t2_1 {x : α × β} {j} {q1} [m : Mono s] (ha : EvF X a σ F M (t2R r s) x) (hs : PlainIx (.Constant (.int 1) j q1) := by exact fun _ _ => rfl) : EvF X (.Subscript a (.Constant (.int 1) j q1) pos) σ F M s x.2 :=
  fun F1 H1 s w Q q => we_of (pe_ix ix_tup (pe_w a) pe_int hs) (ha F1 H1 s w _ fun F2 H2 v s2 w2 ⟨l, u, z, e, hl, h1, h2⟩ => ⟨l, _, 1, z, e, rfl, SqT.of (w2.f _ _ hl), rfl, q F2 H2 _ s2 w2 h2⟩)
theorem ev_t3_0 {x : α × β × γ} {j} {q1} (ha : EvF X a σ F M (t3R r s t) x) (hs : PlainIx (.Constant (.int 0) j q1) := by exact fun _ _ => rfl) : EvF X (.Subscript a (.Constant (.int 0) j q1) pos) σ F M r x.1 :=
  fun F1 H1 s w Q q => we_of (pe_ix ix_tup (pe_w a) pe_int hs) (ha F1 H1 s w _ fun F2 H2 v s2 w2 ⟨l, u, z, y, e, hl, h1, h2, h3⟩ => ⟨l, _, 0, u, e, rfl, SqT.of (w2.f _ _ hl), rfl, q F2 H2 _ s2 w2 h1⟩)
theorem ev_t3_1 {x : α × β × γ} {j} {q1} (ha : EvF X a σ F M (t3R r s t) x) (hs : PlainIx (.Constant (.int 1) j q1) := by exact fun _ _ => rfl) : EvF X (.Subscript a (.Constant (.int 1) j q1) pos) σ F M s x.2.1 :=
  fun F1 H1 s w Q q => we_of (pe_ix ix_tup (pe_w a) pe_int hs) (ha F1 H1 s w _ fun F2 H2 v s2 w2 ⟨l, u, z, y, e, hl, h1, h2, h3⟩ => ⟨l, _, 1, z, e, rfl, SqT.of (w2.f _ _ hl), rfl, q F2 H2 _ s2 w2 h2⟩)
theorem ev_t3_2 {x : α × β × γ} {j} {q1} (ha : EvF X a σ F M (t3R r s t) x) (hs : PlainIx (.Constant (.int 2) j q1) := by exact fun _ _ => rfl) : EvF X (.Subscript a (.Constant (.int 2) j q1) pos) σ F M t x.2.2 :=
  fun F1 H1 s w Q q => we_of (pe_ix ix_tup (pe_w a) pe_int hs) (ha F1 H1 s w _ fun F2 H2 v s2 w2 ⟨l, u, z, y, e, hl, h1, h2, h3⟩ => ⟨l, _, 2, y, e, rfl, SqT.of (w2.f _ _ hl), rfl, q F2 H2 _ s2 w2 h3⟩)
/-! slices: xs[lo:hi] -/
def cutL (xs : List α) (lo hi : Option Int) : List α := (xs.drop (HT.sIx xs.length 0 lo)).take (HT.sIx xs.length xs.length hi - HT.sIx xs.length 0 lo)
theorem cutL_le (xs : List α) (lo hi : Option Int) : (cutL xs lo hi).length ≤ xs.length := by
  unfold cutL
  rw [List.length_take, List.length_drop]
  omega
theorem cutL_mem {xs : List α} {lo hi : Option Int} {x : α} (h : x ∈ cutL xs lo hi) : x ∈ xs := List.mem_of_mem_drop (List.mem_of_mem_take h)
theorem lc_len {xs : List α} {q : α → Bool} {f : α → β} : ((xs.filter q).map f).length ≤ xs.length := by
  rw [List.length_map]
  exact List.length_filter_le _ _
def EvO (X : Cx) (e : Option Expr) (σ : L2.St) (F M : Hp) (o : Option Int) : Prop := match e, o with
  | none, none => True
  | some e, some i => EvF X e σ F M iR i
  | _, _ => False
def WO (X : Cx) (e : Option Expr) : TO := match e with
  | none => tNoPart
  | some e => tPart (WE X e)
theorem po_w (e : Option Expr) : PO X e (WO X e) := by
  cases e with
  | none => exact po_none
  | some e => exact po_some (pe_w e)
theorem EvO.run {e : Option Expr} {o : Option Int} (h : EvO X e σ F M o) {F1 H1 : Hp} (s : Same F F1) (w : Own F1 M H1) (Q : Option Int → Hp → Prop) (q : ∀ F2 H2, Same F1 F2 → Own F2 M H2 → Q o H2) : WO X e σ H1 Q := by
  cases e with
  | none => cases o with
    | none => exact q F1 H1 (Same.refl _) w
    | some i => exact h.elim
  | some e => cases o with
    | none => exact h.elim
    | some i => exact h F1 H1 s w _ fun F2 H2 v s2 w2 hv => ⟨i, hv, q F2 H2 s2 w2⟩
theorem en_slice {xs : List α} {lo hi : Option Expr} {l u : Option Int} [m : Mono r] (ha : EvF X a σ F M (rdR X.K M r) xs) (hl : EvO X lo σ F M l) (hu : EvO X hi σ F M u) : EvN X (.Subscript a (.Slice lo hi none p2) pos) σ F M r (cutL xs l u) :=
  fun F1 H1 s w Q q => we_of (pe_slice sl_list (pe_w a) (po_w lo) (po_w hi)) (ha F1 H1 s w _ fun F2 H2 v s2 w2 ⟨k, vs, e, hk, h2⟩ => hl.run (s.trans s2) w2 _ fun F3 H3 s3 w3 => hu.run ((s.trans s2).trans s3) w3 _ fun F4 H4 s4 w4 =>
    ⟨k, vs, e, w4.sq (hk.imp (fun y => Same.sql (s3.trans s4) y) id), fun p hp => by
      refine q F4 _ p _ ((s2.trans s3).trans s4) ⟨same_in w4.f (w4.noF hp), same_in w4.m (w4.noM hp), w4.d, w4.t⟩ (w4.noF hp) (w4.noM hp) upd_same ?_
      unfold cutV cutL
      rw [h2.len]
      exact ((h2.up (s3.trans s4)).drop _).take _⟩)
end

/-! ### calls of one's own defs -/
/-- the arguments of a call, one after the other -/
abbrev AR (α : Type) := Hp → List V → α → Prop
def an : AR Unit := fun _ vs _ => vs = []
def ac {α β : Type} (r : Rep α) (A : AR β) : AR (α × β) := fun F vs x => ∃ v us, vs = v :: us ∧ r F v x.1 ∧ A F us x.2
/-- a def's promise: what it gives stands for good -/
def FSp {α : Type} (A : AR α) (pre : α → Prop) (R : α → Hp → V → Prop) : Sp := fun vs H Q _ => ∃ F M x, A F vs x ∧ pre x ∧ Own F M H ∧ ∀ F2 H2 v, Same F F2 → Own F2 M H2 → R x F2 v → Q v H2
/-- .. it gives a new list -/
def FSpN {α β : Type} (A : AR α) (pre : α → Prop) (r : Rep β) (R : α → List β → Prop) : Sp := fun vs H Q _ => ∃ F M x, A F vs x ∧ pre x ∧ Own F M H ∧
  ∀ F2 H2 l vs ys, Same F F2 → Own F2 M H2 → F2 l = none → M l = none → H2 l = some (.lst vs) → A2 (r F2) vs ys → R x ys → Q (.ref l) H2
section
variable {X : Cx} {σ : L2.St} {F M : Hp} {a b c e : Expr} {es : List Expr} {pos p p2 : Pos} {α β γ δ : Type} {r : Rep α} {s : Rep β} {n : Str} {k : Nat} {f : Addr} {fd : FuncData} {ps : List Str}
theorem ev_call {A : AR α} {pre : α → Prop} {R : α → Hp → V → Prop} {x : α} (G : FnOk X.prog X.w X.K X.mg X.base CX0 k f fd ps (FSp A pre R)) (hr : Room k X.A) (hm : X.mg n = some (.ref f)) (hk : PySem.W.keepIn X.K (.ref f) = true) (hb : Binds X.K fd ps [])
    (ha : EvA X (e :: es) σ F M fun F vs => A F vs x) (hp : pre x) (hg : Gl X n := by rfl) (hdb : (n == ("__debug__" : Str)) = false := by decide) (he : starEach (e :: es) X.env = (false, eval e X.env) :: starEach es X.env := by rfl) (hpl : (backTo pos (starEach es X.env)).any (·.1) = false := by rfl) :
    Ev X (.Call (.Name n p) (e :: es) [] pos) σ F M (R x) :=
  fun F1 H1 s w Q q => we_of (pe_call G hr hg hm hk hb .nil pass0 (pa_w (e :: es)) hdb he hpl) (ha F1 H1 s w _ fun F2 H2 vs s2 w2 hv => by
    show FSp A pre R (vs ++ []) H2 Q E0
    rw [List.append_nil]
    exact ⟨F2, M, x, hv, hp, w2, fun F3 H3 v s3 w3 h => q F3 H3 v (s2.trans s3) w3 h⟩)
/-- what is known of the new list a call gives -/
def EvNP (X : Cx) (e : Expr) (σ : L2.St) (F M : Hp) {β : Type} (r : Rep β) (P : List β → Prop) : Prop :=
  ∀ F1 H1, Same F F1 → Own F1 M H1 → ∀ Q : VK, (∀ F2 H2 l vs ys, Same F1 F2 → Own F2 M H2 → F2 l = none → M l = none → H2 l = some (.lst vs) → A2 (r F2) vs ys → P ys → Q (.ref l) H2) → WE X e σ H1 Q
theorem ev_callN {A : AR α} {pre : α → Prop} {R : α → List β → Prop} {x : α} (G : FnOk X.prog X.w X.K X.mg X.base CX0 k f fd ps (FSpN A pre s R)) (hr : Room k X.A) (hm : X.mg n = some (.ref f)) (hk : PySem.W.keepIn X.K (.ref f) = true) (hb : Binds X.K fd ps [])
    (ha : EvA X (e :: es) σ F M fun F vs => A F vs x) (hp : pre x) (hg : Gl X n := by rfl) (hdb : (n == ("__debug__" : Str)) = false := by decide) (he : starEach (e :: es) X.env = (false, eval e X.env) :: starEach es X.env := by rfl) (hpl : (backTo pos (starEach es X.env)).any (·.1) = false := by rfl) :
    EvNP X (.Call (.Name n p) (e :: es) [] pos) σ F M s (R x) :=
  fun F1 H1 s1 w Q q => we_of (pe_call G hr hg hm hk hb .nil pass0 (pa_w (e :: es)) hdb he hpl) (ha F1 H1 s1 w _ fun F2 H2 vs s2 w2 hv => by
    show FSpN A pre s R (vs ++ []) H2 Q E0
    rw [List.append_nil]
    exact ⟨F2, M, x, hv, hp, w2, fun F3 H3 l vs ys s3 w3 h1 h2 h3 h4 h5 => q F3 H3 l vs ys (s2.trans s3) w3 h1 h2 h3 h4 h5⟩)
theorem EvNP.fz {P : List α → Prop} [m : Mono r] (h : EvNP X e σ F M r P) : Ev X e σ F M fun F v => ∃ xs, lR r F v xs ∧ P xs := fun F1 H1 s w Q q => h F1 H1 s w Q fun F2 H2 a vs ys s2 w2 n1 n2 hh h2 hP =>
  q _ H2 _ (s2.trans (same_new n1)) (w2.keepF n1 n2 hh) ⟨ys, ⟨a, vs, rfl, upd_same, h2.up (same_new n1)⟩, hP⟩
theorem EvNP.eq {P : List α → Prop} {xs : List α} (h : EvNP X e σ F M r P) (q : ∀ ys, P ys → ys = xs) : EvN X e σ F M r xs := fun F1 H1 s w Q k => h F1 H1 s w Q fun F2 H2 a vs ys s2 w2 n1 n2 hh h2 hP => by
  cases q ys hP
  exact k F2 H2 a vs s2 w2 n1 n2 hh h2
end
section
variable {P : Program} {w : World} {K : PySem.W.Frag} {mg : Str → Option Value} {base : Heap}
/-- a def holds its promise: its body from its arguments on -/
theorem ok_def {x qual : Str} {st : Stmt} {f : Addr} {fd : FuncData} {N ps : List Str} {k : Nat} {sp : Sp} (F : Fun K x qual st f fd) (S : FnScope N ps (defScope st)) (len : ∀ vs H Q E, sp vs H Q E → vs.length = ps.length)
    (hbody : ∀ (cdv : Value) (A : Around) (outer : List Env) (s : Shared) (H : Hp) (vs : List V) (Q : VK) (E : XK), Room k (A.deeper (envOfC qual (defScope st) s.heap.objs.size f cdv)) → sp vs H Q E →
      WSs (cxOf CX0 P w K mg base N qual (defScope st) f cdv A outer s H E).nox (defBody st) { nx := fun _ H' => Q .non H', rt := Q } (start N vs) H) : FnOk P w K mg base CX0 (k + 1) f fd ps sp :=
  F.ok S len fun cdv A outer s H vs Q E hr h => ⟨_, pss_w _, hbody cdv A outer s H vs Q E hr h⟩
end
end Y

namespace Y
open PySem PySem.Spec PyProof.Rows L2
/-! ### == at any depth -/
/-- what is compared item by item -/
class DEq {α : Type} (r : Rep α) where
  toD : α → PyData
  dep : Nat
  dp : ∀ {K : PySem.W.Frag} {F : Hp} {v : V} {x : α}, r F v x → Dp K F v (toD x)
  lay : ∀ {F : Hp} {v : V} {x : α}, r F v x → (toD x).canLay0 = true
  dpt : ∀ x : α, (toD x).depth ≤ dep
  eqv : ∀ x y : α, PyData.eqv (toD x) (toD y) = true ↔ x = y
theorem b_iff {b : Bool} {p : Prop} [Decidable p] (h : b = true ↔ p) : b = decide p := by
  cases b with
  | true => exact (decide_eq_true (h.mp rfl)).symm
  | false => exact (decide_eq_false fun q => Bool.false_ne_true (h.mpr q)).symm
mutual
theorem Dp.up {K : PySem.W.Frag} {F F' : Hp} (e : Same F F') : ∀ {v : V} {d : PyData}, Dp K F v d → Dp K F' v d
  | _, _, .non => .non
  | _, _, .bl b => .bl b
  | _, _, .int i => .int i
  | _, _, .str x => .str x
  | _, _, .lst h t => .lst (Same.sql e h) (DpAll.up e t)
  | _, _, .tup h t => .tup (Same.sqt e h) (DpAll.up e t)
theorem DpAll.up {K : PySem.W.Frag} {F F' : Hp} (e : Same F F') : ∀ {vs : List V} {ds : List PyData}, DpAll K F vs ds → DpAll K F' vs ds
  | _, _, .nil => .nil
  | _, _, .cons h t => .cons (Dp.up e h) (DpAll.up e t)
end
instance : DEq iR where
  toD := .int
  dep := 0
  dp := fun h => by cases h; exact .int _
  lay := fun _ => rfl
  dpt := fun _ => Nat.le_refl _
  eqv := fun x y => by simp [PyData.eqv]
instance : DEq bR where
  toD := .bool
  dep := 0
  dp := fun h => by cases h; exact .bl _
  lay := fun _ => rfl
  dpt := fun _ => Nat.le_refl _
  eqv := fun x y => by simp [PyData.eqv]
instance : DEq sR where
  toD := .str
  dep := 0
  dp := fun h => by cases h.1; exact .str _
  lay := fun h => h.2
  dpt := fun _ => Nat.le_refl _
  eqv := fun x y => by simp [PyData.eqv]
instance : DEq nR where
  toD := fun _ => .none
  dep := 0
  dp := fun h => by cases h; exact .non
  lay := fun _ => rfl
  dpt := fun _ => Nat.le_refl _
  eqv := fun x y => by simp [PyData.eqv]
theorem dpAll_of {α : Type} {r : Rep α} [d : DEq r] {K : PySem.W.Frag} {F : Hp} : ∀ {vs : List V} {xs : List α}, A2 (r F) vs xs → DpAll K F vs (xs.map d.toD)
  | _, _, .nil => .nil
  | _, _, .cons h t => .cons (d.dp h) (dpAll_of t)
theorem layAll_of {α : Type} {r : Rep α} [d : DEq r] {F : Hp} : ∀ {vs : List V} {xs : List α}, A2 (r F) vs xs → PyData.canLayAll0 (xs.map d.toD) = true
  | _, _, .nil => rfl
  | _, _, .cons h t => by
    show (PyData.canLay0 _ && PyData.canLayAll0 _) = true
    rw [d.lay h, layAll_of t]; rfl
theorem dptAll_of {α : Type} {r : Rep α} [d : DEq r] : ∀ xs : List α, PyData.depthAll (xs.map d.toD) ≤ d.dep
  | [] => Nat.zero_le _
  | x :: xs => by
    show max (PyData.depth _) (PyData.depthAll _) ≤ _
    exact Nat.max_le.mpr ⟨d.dpt x, dptAll_of xs⟩
theorem eqvAll_of {α : Type} {r : Rep α} [d : DEq r] : ∀ xs ys : List α, PyData.eqvAll (xs.map d.toD) (ys.map d.toD) = true ↔ xs = ys
  | [], [] => by simp [PyData.eqvAll]
  | [], _ :: _ => by simp [PyData.eqvAll]
  | _ :: _, [] => by simp [PyData.eqvAll]
  | x :: xs, y :: ys => by
    show ((PyData.eqv _ _ && PyData.eqvAll _ _) = true) ↔ _
    rw [Bool.and_eq_true, d.eqv, eqvAll_of xs ys, List.cons.injEq]
instance {α : Type} {r : Rep α} [d : DEq r] : DEq (lR r) where
  toD := fun xs => .list (xs.map d.toD)
  dep := d.dep + 1
  dp := fun ⟨a, vs, e, h1, h2⟩ => by subst e; exact .lst (SqL.of h1) (dpAll_of h2)
  lay := fun ⟨a, vs, e, h1, h2⟩ => layAll_of h2
  dpt := fun xs => Nat.add_le_add_right (dptAll_of xs) 1
  eqv := fun xs ys => eqvAll_of xs ys
instance {α β : Type} {r : Rep α} {s : Rep β} [d : DEq r] [e : DEq s] : DEq (t2R r s) where
  toD := fun x => .tuple [d.toD x.1, e.toD x.2]
  dep := max d.dep e.dep + 1
  dp := fun ⟨a, u, w, q, h1, h2, h3⟩ => by subst q; exact .tup (SqT.of h1) (.cons (d.dp h2) (.cons (e.dp h3) .nil))
  lay := fun ⟨a, u, w, q, h1, h2, h3⟩ => by
    show (PyData.canLay0 _ && (PyData.canLay0 _ && true)) = true
    rw [d.lay h2, e.lay h3]; rfl
  dpt := fun x => by
    show max (PyData.depth _) (max (PyData.depth _) 0) + 1 ≤ _
    have h1 := d.dpt x.1
    have h2 := e.dpt x.2
    omega
  eqv := fun x y => by
    show ((PyData.eqv _ _ && (PyData.eqv _ _ && true)) = true) ↔ _
    rw [Bool.and_eq_true, Bool.and_eq_true, d.eqv, e.eqv]
    cases x; cases y; simp
instance {α β γ : Type} {r : Rep α} {s : Rep β} {t : Rep γ} [d : DEq r] [e : DEq s] [f : DEq t] : DEq (t3R r s t) where
  toD := fun x => .tuple [d.toD x.1, e.toD x.2.1, f.toD x.2.2]
  dep := max d.dep (max e.dep f.dep) + 1
  dp := fun ⟨a, u, w, z, q, h1, h2, h3, h4⟩ => by subst q; exact .tup (SqT.of h1) (.cons (d.dp h2) (.cons (e.dp h3) (.cons (f.dp h4) .nil)))
  lay := fun ⟨a, u, w, z, q, h1, h2, h3, h4⟩ => by
    show (PyData.canLay0 _ && (PyData.canLay0 _ && (PyData.canLay0 _ && true))) = true
    rw [d.lay h2, e.lay h3, f.lay h4]; rfl
  dpt := fun x => by
    show max (PyData.depth _) (max (PyData.depth _) (max (PyData.depth _) 0)) + 1 ≤ _
    have h1 := d.dpt x.1
    have h2 := e.dpt x.2.1
    have h3 := f.dpt x.2.2
    omega
  eqv := fun x y => by
    show ((PyData.eqv _ _ && (PyData.eqv _ _ && (PyData.eqv _ _ && true))) = true) ↔ _
    rw [Bool.and_eq_true, Bool.and_eq_true, Bool.and_eq_true, d.eqv, e.eqv, f.eqv]
    obtain ⟨x1, x2, x3⟩ := x
    obtain ⟨y1, y2, y3⟩ := y
    simp
section
variable {X : Cx} {σ : L2.St} {F M : Hp} {a b c e : Expr} {pos p p2 : Pos} {α β γ δ : Type} {r : Rep α} {s : Rep β} {t : Rep γ} {n : Str}
/-- a list to be read, one that is no written one of the module -/
def rtR (M : Hp) {α : Type} (r : Rep α) : Rep (List α) := fun F v xs => ∃ a vs, v = .ref a ∧ (F a = some (.lst vs) ∨ M a = some (.lst vs)) ∧ A2 (r F) vs xs
instance {M : Hp} {α : Type} {r : Rep α} [m : Mono r] : Mono (rtR M r) := ⟨fun e ⟨a, vs, h1, h2, h3⟩ => ⟨a, vs, h1, h2.imp (fun q => e.lst q) id, h3.sub e⟩⟩
theorem Ev.rt {xs : List α} (h : EvF X e σ F M (lR r) xs) : EvF X e σ F M (rtR M r) xs := h.imp fun _ _ ⟨a, vs, h1, h2, h3⟩ => ⟨a, vs, h1, .inl h2, h3⟩
theorem Ev.td {xs : List α} (h : EvF X e σ F M (rtR M r) xs) : EvF X e σ F M (rdR X.K M r) xs := h.imp fun _ _ ⟨a, vs, h1, h2, h3⟩ => ⟨a, vs, h1, h2.imp SqL.of id, h3⟩
theorem ev_varT (i : Nat) {xs : List α} {l : Addr} {vs : List V} {n : Str} [m : Mono r] (hs : σ[i]? = some (some (.ref l))) (hM : M l = some (.lst vs)) (hr : A2 (r F) vs xs) (hN : X.N[i]? = some n := by rfl)
    (hv : Vis X.env.scope n := by first | exact Or.inl rfl | exact Or.inr (Or.inl rfl) | exact Or.inr (Or.inr rfl)) (hd : (n == ("__debug__" : Str)) = false := by decide) (hcd : (n == ("__classdict__" : Str)) = false := by decide) :
    EvF X (.Name n pos) σ F M (rtR M r) xs := fun F1 H1 s w Q q => we_of (pe_var hN hv hd hcd) ⟨_, hs, q F1 H1 _ (Same.refl _) w ⟨l, vs, rfl, .inr hM, hr.up s⟩⟩
theorem shaped_of {d : PyData} (h1 : d.canLay0 = true) (h2 : d.depth ≤ 64) : SeqAt.shaped d = true := by
  show (d.canLay0 && decide (d.depth ≤ 64)) = true
  rw [h1, decide_eq_true h2]; rfl
theorem bx_eqD [d : DEq r] [m : Mono r] [DecidableEq α] {x y : α} (hu : X.A.units + 64 < cLine) (ha : EvF X a σ F M r x) (hb : EvF X b σ F M r y) (hdep : d.dep ≤ 64 := by decide) : Bx X (.Compare a [.Eq] [b] pos) σ F M (decide (x = y)) :=
  bx_c (ec_R (op_eqD hu) ha hb (fun _ _ _ e h => Mono.mono e h) fun F1 H1 v u _ w hv hu Q q =>
    ⟨d.toD x, d.toD y, Dp.up w.f (d.dp hv), Dp.up w.f (d.dp hu), shaped_of (d.lay hv) (Nat.le_trans (d.dpt x) hdep), shaped_of (d.lay hu) (Nat.le_trans (d.dpt y) hdep), by rw [b_iff (d.eqv x y)]; exact q⟩)
theorem bx_neD [d : DEq r] [m : Mono r] [DecidableEq α] {x y : α} (hu : X.A.units + 64 < cLine) (ha : EvF X a σ F M r x) (hb : EvF X b σ F M r y) (hdep : d.dep ≤ 64 := by decide) : Bx X (.Compare a [.NotEq] [b] pos) σ F M (!decide (x = y)) :=
  bx_c (ec_R (op_neD hu) ha hb (fun _ _ _ e h => Mono.mono e h) fun F1 H1 v u _ w hv hu Q q =>
    ⟨d.toD x, d.toD y, Dp.up w.f (d.dp hv), Dp.up w.f (d.dp hu), shaped_of (d.lay hv) (Nat.le_trans (d.dpt x) hdep), shaped_of (d.lay hu) (Nat.le_trans (d.dpt y) hdep), by rw [b_iff (d.eqv x y)]; exact q⟩)
/-- lists, one's own among them -/
theorem rt_dp [d : DEq r] {K : PySem.W.Frag} {H : Hp} {v : V} {xs : List α} (w : Own F M H) (h : rtR M r F v xs) : Dp K H v (.list (xs.map d.toD)) ∧ PyData.canLay0 (.list (xs.map d.toD)) = true := by
  obtain ⟨a, vs, rfl, h1, h2⟩ := h
  refine ⟨.lst (h1.elim (fun q => SqL.of (w.f _ _ q)) fun q => SqL.of (w.m _ _ q)) (DpAll.up w.f (dpAll_of h2)), layAll_of h2⟩
theorem bx_eqT [d : DEq r] [m : Mono r] [DecidableEq α] {x y : List α} (hu : X.A.units + 64 < cLine) (ha : EvF X a σ F M (rtR M r) x) (hb : EvF X b σ F M (rtR M r) y) (hdep : d.dep ≤ 63 := by decide) : Bx X (.Compare a [.Eq] [b] pos) σ F M (decide (x = y)) :=
  bx_c (ec_R (op_eqD hu) ha hb (fun _ _ _ e h => Mono.mono e h) fun F1 H1 v u _ w hv hu Q q => by
    obtain ⟨p1, l1⟩ := rt_dp (K := X.K) w hv
    obtain ⟨p2, l2⟩ := rt_dp (K := X.K) w hu
    refine ⟨_, _, p1, p2, shaped_of l1 (Nat.le_trans (Nat.add_le_add_right (dptAll_of x) 1) (Nat.add_le_add_right hdep 1)), shaped_of l2 (Nat.le_trans (Nat.add_le_add_right (dptAll_of y) 1) (Nat.add_le_add_right hdep 1)), ?_⟩
    rw [show PyData.eqv (.list (x.map d.toD)) (.list (y.map d.toD)) = decide (x = y) from b_iff (eqvAll_of x y)]
    exact q)
theorem bx_neT [d : DEq r] [m : Mono r] [DecidableEq α] {x y : List α} (hu : X.A.units + 64 < cLine) (ha : EvF X a σ F M (rtR M r) x) (hb : EvF X b σ F M (rtR M r) y) (hdep : d.dep ≤ 63 := by decide) : Bx X (.Compare a [.NotEq] [b] pos) σ F M (!decide (x = y)) :=
  bx_c (ec_R (op_neD hu) ha hb (fun _ _ _ e h => Mono.mono e h) fun F1 H1 v u _ w hv hu Q q => by
    obtain ⟨p1, l1⟩ := rt_dp (K := X.K) w hv
    obtain ⟨p2, l2⟩ := rt_dp (K := X.K) w hu
    refine ⟨_, _, p1, p2, shaped_of l1 (Nat.le_trans (Nat.add_le_add_right (dptAll_of x) 1) (Nat.add_le_add_right hdep 1)), shaped_of l2 (Nat.le_trans (Nat.add_le_add_right (dptAll_of y) 1) (Nat.add_le_add_right hdep 1)), ?_⟩
    rw [show PyData.eqv (.list (x.map d.toD)) (.list (y.map d.toD)) = decide (x = y) from b_iff (eqvAll_of x y)]
    exact q)

/-! ### in, not in: a list of ints -/
theorem flat_ints : ∀ xs : List Int, (xs.map V.int).all flatV = true
  | [] => rfl
  | x :: xs => by rw [List.map_cons, List.all_cons, flat_ints xs]; rfl
theorem inV_ints (i : Int) : ∀ xs : List Int, inV (.int i) (xs.map V.int) = decide (i ∈ xs)
  | [] => by simp [inV]
  | x :: xs => by
    have ih := inV_ints i xs
    unfold inV at ih ⊢
    rw [List.map_cons, List.any_cons, ih]
    show ((x == i) || decide (i ∈ xs)) = _
    by_cases h : x = i
    · subst h; simp
    · have : ¬ i = x := fun q => h q.symm
      simp [h, this]
theorem bx_inL {i : Int} {xs : List Int} (ha : EvF X a σ F M iR i) (hb : EvF X b σ F M (rdR X.K M iR) xs) (hm : behindInMarks .In b = false := by rfl) : Bx X (.Compare a [.In] [b] pos) σ F M (decide (i ∈ xs)) :=
  bx_c (ec_R op_in_seq ha hb (fun _ _ _ _ h => h) fun F1 H1 v u _ w hv ⟨l, vs, e, hl, h2⟩ Q q => by
    cases (show v = V.int i from hv)
    refine ⟨l, vs, e, .inl (w.sq hl), rfl, ?_, ?_⟩
    · rw [iR_map h2]; exact flat_ints xs
    · rw [iR_map h2, inV_ints]; exact q) hm
theorem bx_niL {i : Int} {xs : List Int} (ha : EvF X a σ F M iR i) (hb : EvF X b σ F M (rdR X.K M iR) xs) (hm : behindInMarks .NotIn b = false := by rfl) : Bx X (.Compare a [.NotIn] [b] pos) σ F M (!decide (i ∈ xs)) :=
  bx_c (ec_R op_notIn_seq ha hb (fun _ _ _ _ h => h) fun F1 H1 v u _ w hv ⟨l, vs, e, hl, h2⟩ Q q => by
    cases (show v = V.int i from hv)
    refine ⟨l, vs, e, .inl (w.sq hl), rfl, ?_, ?_⟩
    · rw [iR_map h2]; exact flat_ints xs
    · rw [iR_map h2, inV_ints]; exact q) hm

/-! ### isinstance -/
class TyIs {α : Type} (r : Rep α) (T : outParam String) : Prop where
  ty : ∀ {K : PySem.W.Frag} {F : Hp} {v : V} {x : α}, r F v x → TyX K F v (.type T)
instance : TyIs iR "int" := ⟨fun h => by cases h; exact .base (.int _)⟩
instance : TyIs bR "bool" := ⟨fun h => by cases h; exact .base (.bl _)⟩
instance : TyIs sR "str" := ⟨fun h => by cases h.1; exact .base (.str _)⟩
instance : TyIs nR "NoneType" := ⟨fun h => by cases h; exact .base .non⟩
instance {α : Type} {r : Rep α} : TyIs (lR r) "list" := ⟨fun ⟨a, vs, e, h, _⟩ => by subst e; exact .base (.lst h)⟩
instance {α β : Type} {r : Rep α} {s : Rep β} : TyIs (t2R r s) "tuple" := ⟨fun ⟨a, u, w, e, h, _⟩ => by subst e; exact .base (.tup h)⟩
instance {α β γ : Type} {r : Rep α} {s : Rep β} {t : Rep γ} : TyIs (t3R r s t) "tuple" := ⟨fun ⟨a, u, w, z, e, h, _⟩ => by subst e; exact .base (.tup h)⟩
theorem bx_isi {T' : Str} {S S' : String} {x : α} {k : Bool} [t : TyIs r S] [m : Mono r] {q2 : Pos} (hm : X.mg "isinstance" = none) (hT : X.mg T' = none) (hb : bootBuiltins T' = some (.type S')) (ha : EvF X a σ F M r x) (hk : kitB S S' = some k) (hg : Gl X "isinstance" := by rfl) (hgT : Gl X T' := by rfl)
    (hn : T' ≠ "__name__" := by decide) (hd : (T' == ("__debug__" : Str)) = false := by decide)
    (he : starEach [a, .Name T' q2] X.env = (false, eval a X.env) :: starEach [.Name T' q2] X.env := by rfl) (he2 : starEach [.Name T' q2] X.env = (false, eval (.Name T' q2) X.env) :: starEach [] X.env := by rfl) (hpl : (backTo pos (starEach [.Name T' q2] X.env)).any (·.1) = false := by rfl)
    (ht : ∀ whole, isTrue (.Call (.Name "isinstance" p) [a, .Name T' q2] [] pos) X.env whole = (do let v ← whole; standAt (Expr.Call (.Name "isinstance" p) [a, .Name T' q2] [] pos).pos; holding [v] (truthy v)) := by intro _; rfl) :
    Bx X (.Call (.Name "isinstance" p) [a, .Name T' q2] [] pos) σ F M k :=
  bx_val (fun F1 H1 s w Q q => we_of (pe_callB call_isi hg hm (by decide +kernel) (pa_cons (pe_w a) (pa_cons (pe_bltn (v := .ty S') hgT hT hb rfl hn hd) pa_nil he2) he) (he := he) (hpl := hpl)) (ha F1 H1 s w _ fun F2 H2 v s2 w2 hv =>
    ⟨v, .ty S', .type S, .type S', k, rfl, .ty S', t.ty (F := H2) (x := x) (Mono.mono w2.f hv), kit_ty hk, q F2 H2 _ s2 w2 rfl⟩)) ht
end
end Y

namespace Y
open PySem PySem.Spec PyProof.Rows L2
section
variable {F M H : Hp} {a b c p q l : Addr} {o o1 o2 o3 u : HO}
theorem upd_comm (h : p ≠ q) : upd (upd M p o) q u = upd (upd M q u) p o := by
  funext x
  by_cases h1 : x = p
  · subst h1; rw [upd_ne h, upd_same, upd_same]
  · by_cases h2 : x = q
    · subst h2; rw [upd_same, upd_ne h1, upd_same]
    · rw [upd_ne h2, upd_ne h1, upd_ne h1, upd_ne h2]
theorem upd_c2 (h : p ≠ q) : upd (upd (upd M p o) q u) p o1 = upd (upd M p o1) q u := by rw [upd_comm h, upd_upd, upd_comm h.symm]
theorem upd_c3 (h : p ≠ q) (h2 : p ≠ l) (h3 : q ≠ l) : upd (upd (upd (upd M p o) q u) l o2) p o1 = upd (upd (upd M p o1) q u) l o2 := by
  rw [← upd_comm h2, upd_c2 h]
theorem upd_comm3 (h : p ≠ q) (h2 : p ≠ l) : upd (upd (upd M p o) q u) l o2 = upd (upd (upd M q u) l o2) p o := by
  rw [upd_comm h, upd_comm h2]
theorem Own.cast {M' : Hp} (w : Own F M H) (e : M = M') : Own F M' H := e ▸ w
theorem Own.fz1 (w : Own F (upd M l o) H) (h : M l = none) : Own (upd F l o) M H := by
  have e := w.freeze (p := l) upd_same
  have d : del (upd M l o) l = M := by
    funext x
    by_cases h1 : x = l
    · subst h1; rw [del_same, h]
    · rw [del_ne h1, upd_ne h1]
  rw [d] at e; exact e
end
section
variable {X : Cx} {σ : L2.St} {F M H : Hp} {a b c e : Expr} {pos p p2 : Pos} {α β γ δ : Type} {r : Rep α} {s : Rep β} {t : Rep γ} {n : Str} {rest : List Stmt} {D : Ends}
theorem ev_ifF {x y : α} {k : Bool} (hc : Bx X c σ F M k) (h1 : k = true → EvF X a σ F M r x) (h2 : k = false → EvF X b σ F M r y) : EvF X (.IfExp c a b pos) σ F M r (if k = true then x else y) :=
  ev_if hc (fun h => by subst h; simpa using h1 rfl) (fun h => by subst h; simpa using h2 rfl)
theorem EvI.eq {tg it : Expr} {xs ys : List α} (h : EvI X tg it σ F M r xs) (q : xs = ys) : EvI X tg it σ F M r ys := q ▸ h
theorem en_cat {xs ys : List α} [m : Mono r] (ha : EvF X a σ F M (rtR M r) xs) (hb : EvF X b σ F M (rtR M r) ys) (hl : xs.length + ys.length ≤ 1000000) : EvN X (.BinOp a .Add b pos) σ F M r (xs ++ ys) :=
  fun F1 H1 s w Q q => we_of (pe_op op_cat (pe_w a) (pe_w b)) (ha F1 H1 s w _ fun F2 H2 v s2 w2 ⟨l, vs, e, hl1, h2⟩ => hb F2 H2 (s.trans s2) w2 _ fun F3 H3 u s3 w3 ⟨l', vs', e', hl', h2'⟩ =>
    ⟨l, l', vs, vs', e, e', hl1.elim (fun z => w3.f _ _ (s3 _ _ z)) (w3.m _ _), hl'.elim (w3.f _ _) (w3.m _ _), small_of (by rw [h2.len, h2'.len]; exact hl), fun p hp =>
      q F3 _ p _ (s2.trans s3) ⟨same_in w3.f (w3.noF hp), same_in w3.m (w3.noM hp), w3.d, w3.t⟩ (w3.noF hp) (w3.noM hp) upd_same ((h2.up s3).app h2')⟩)
theorem bx_chain {op op' : CmpOp} {g1 g2 : Int → Int → Bool} {i j k : Int} (ho : OpR X (compareOp op) (rI0 fun i j => .bl (g1 i j))) (ho' : OpR X (compareOp op') (rI0 fun i j => .bl (g2 i j))) (ha : EvF X a σ F M iR i) (hb : EvF X b σ F M iR j) (hc : EvF X c σ F M iR k)
    (hm : lastMarks [op, op'] [b, c] = false := by with_unfolding_all rfl) : Bx X (.Compare a [op, op'] [b, c] pos) σ F M (g1 i j && g2 j k) := by
  refine ⟨fun F1 H1 s w Q q => we_of (pe_chain ho ho' (pe_w a) (pe_w b) (pe_w c) hm) (ha F1 H1 s w _ fun F2 H2 v s2 w2 hv => hb F2 H2 (s.trans s2) w2 _ fun F3 H3 u s3 w3 hu => ⟨i, j, hv, hu, g1 i j, rfl, ?_⟩), fun F1 H1 s w Q q => wt_of (pt_chain ho ho' (pe_w a) (pe_w b) (pe_w c) hm) (ha F1 H1 s w _ fun F2 H2 v s2 w2 hv => hb F2 H2 (s.trans s2) w2 _ fun F3 H3 u s3 w3 hu => ⟨i, j, hv, hu, g1 i j, rfl, ?_⟩)⟩
  · cases hk : g1 i j with
    | false =>
      rw [if_neg Bool.false_ne_true]
      exact q F3 H3 _ (s2.trans s3) w3 (by rw [hk]; rfl)
    | true =>
      rw [if_pos rfl]
      exact hc F3 H3 ((s.trans s2).trans s3) w3 _ fun F4 H4 z s4 w4 hz => ⟨j, k, hu, hz, q F4 H4 _ ((s2.trans s3).trans s4) w4 (by rw [hk]; rfl)⟩
  · cases hk : g1 i j with
    | false =>
      rw [if_neg Bool.false_ne_true]
      exact ⟨_, rfl, by have := q F3 H3 (s2.trans s3) w3; rw [hk] at this; exact this⟩
    | true =>
      rw [if_pos rfl]
      exact hc F3 H3 ((s.trans s2).trans s3) w3 _ fun F4 H4 z s4 w4 hz => ⟨j, k, hu, hz, _, rfl, by have := q F4 H4 ((s2.trans s3).trans s4) w4; rw [hk] at this; exact this⟩
theorem ss_doc {x j} {q1 q2 : Pos} (k : WSs X rest D σ H) : WSs X (.Expr (.Constant (.str x) j q1) q2 :: rest) D σ H := wss_cons (ws_of ps_doc k)
theorem ss_pass (k : WSs X rest D σ H) : WSs X (.Pass pos :: rest) D σ H := wss_cons (ws_of ps_pass k)
theorem ss_continue (k : D.ct σ H) : WSs X (.Continue pos :: rest) D σ H := wss_cons (ws_of ps_continue k)
theorem ss_break (k : D.bk σ H) : WSs X (.Break pos :: rest) D σ H := wss_cons (ws_of ps_break k)
theorem ss_setB (i : Nat) {x : Bool} (he : EvF X e σ F M bR x) (w : Own F M H) (k : ∀ H2, Own F M H2 → WSs X rest D (σ.set i (some (.bl x))) H2)
    (hN : X.N.Nodup) (hi : X.N[i]? = some n := by rfl) (hx : Loc X.env.scope n := by first | exact Or.inl rfl | exact Or.inr rfl) (hs : swapsWith e (some (.Name n p)) pos.line X.env = pure false := by rfl) (hf : X.fn n = true ∨ X.env.scope.names.lookup n = some .local := by first | exact .inl rfl | exact .inr rfl) :
    WSs X (.Assign [.Name n p] e pos :: rest) D σ H :=
  ss_set i he w (fun F2 H2 v s2 w2 hv => by cases (show v = V.bl x from hv); exact k H2 (w2.lessF s2)) hN hi hx hs hf
theorem ss_setNP (i : Nat) {P : List α → Prop} (he : EvNP X e σ F M r P) (w : Own F M H) (k : ∀ F2 H2 l vs xs, Same F F2 → M l = none → Own F2 (upd M l (.lst vs)) H2 → A2 (r F2) vs xs → P xs → WSs X rest D (σ.set i (some (.ref l))) H2)
    (hN : X.N.Nodup) (hi : X.N[i]? = some n := by rfl) (hx : Loc X.env.scope n := by first | exact Or.inl rfl | exact Or.inr rfl) (hs : swapsWith e (some (.Name n p)) pos.line X.env = pure false := by rfl) (hf : X.fn n = true ∨ X.env.scope.names.lookup n = some .local := by first | exact .inl rfl | exact .inr rfl) :
    WSs X (.Assign [.Name n p] e pos :: rest) D σ H :=
  wss_cons (ws_of (ps_set hN hi hx (pe_w e) hs hf) (he F H (Same.refl _) w _ fun F2 H2 l vs xs s2 w2 n1 n2 hh h2 hp => k F2 H2 l vs xs s2 n2 (w2.keepM n1 n2 hh) h2 hp))
theorem ss_retN {xs : List α} (he : EvN X e σ F M r xs) (w : Own F M H) (k : ∀ F2 H2 l vs, Same F F2 → Own F2 M H2 → F2 l = none → M l = none → H2 l = some (.lst vs) → A2 (r F2) vs xs → D.rt (.ref l) H2) : WSs X (.Return (some e) pos :: rest) D σ H :=
  wss_cons (ws_of (ps_ret (pe_w e)) (he F H (Same.refl _) w _ fun F2 H2 l vs s2 w2 n1 n2 hh h2 => k F2 H2 l vs s2 w2 n1 n2 hh h2))
theorem ss_retNP {P : List α → Prop} (he : EvNP X e σ F M r P) (w : Own F M H) (k : ∀ F2 H2 l vs xs, Same F F2 → Own F2 M H2 → F2 l = none → M l = none → H2 l = some (.lst vs) → A2 (r F2) vs xs → P xs → D.rt (.ref l) H2) : WSs X (.Return (some e) pos :: rest) D σ H :=
  wss_cons (ws_of (ps_ret (pe_w e)) (he F H (Same.refl _) w _ fun F2 H2 l vs xs s2 w2 n1 n2 hh h2 hp => k F2 H2 l vs xs s2 w2 n1 n2 hh h2 hp))
theorem ss_retM (i : Nat) {l : Addr} (hs : σ[i]? = some (some (.ref l))) (k : D.rt (.ref l) H) (hN : X.N[i]? = some n := by rfl)
    (hv : Vis X.env.scope n := by first | exact Or.inl rfl | exact Or.inr (Or.inl rfl) | exact Or.inr (Or.inr rfl)) (hd : (n == ("__debug__" : Str)) = false := by decide) (hcd : (n == ("__classdict__" : Str)) = false := by decide) :
    WSs X (.Return (some (.Name n p)) pos :: rest) D σ H := wss_cons (ws_of (ps_ret (pe_var hN hv hd hcd)) ⟨_, hs, k⟩)
/-- x += e, x -= e -/
theorem ss_augA (i : Nat) {x y z : Int} (hσ : σ[i]? = some (some (.int x))) (he : EvF X e σ F M iR y) (w : Own F M H) (hz : x + y = z) (k : ∀ H2, Own F M H2 → WSs X rest D (σ.set i (some (.int z))) H2)
    (hN : X.N.Nodup) (hi : X.N[i]? = some n := by rfl) (hx : Loc X.env.scope n := by first | exact Or.inl rfl | exact Or.inr rfl) (hf : X.fn n = true ∨ X.env.scope.names.lookup n = some .local := by first | exact .inl rfl | exact .inr rfl) : WSs X (.AugAssign (.Name n p) .Add e pos :: rest) D σ H :=
  wss_cons (ws_of (ps_aug hN hi hx (pe_w e) ip_add hf) ⟨_, hσ, he F H (Same.refl _) w _ fun F2 H2 v s2 w2 hv => ⟨x, y, rfl, hv, by show (thn X rest D).nx (σ.set i (some (.int (x + y)))) H2; rw [hz]; exact k H2 (w2.lessF s2)⟩⟩)
theorem ss_augS (i : Nat) {x y z : Int} (hσ : σ[i]? = some (some (.int x))) (he : EvF X e σ F M iR y) (w : Own F M H) (hz : x - y = z) (k : ∀ H2, Own F M H2 → WSs X rest D (σ.set i (some (.int z))) H2)
    (hN : X.N.Nodup) (hi : X.N[i]? = some n := by rfl) (hx : Loc X.env.scope n := by first | exact Or.inl rfl | exact Or.inr rfl) (hf : X.fn n = true ∨ X.env.scope.names.lookup n = some .local := by first | exact .inl rfl | exact .inr rfl) : WSs X (.AugAssign (.Name n p) .Sub e pos :: rest) D σ H :=
  wss_cons (ws_of (ps_aug hN hi hx (pe_w e) ip_sub hf) ⟨_, hσ, he F H (Same.refl _) w _ fun F2 H2 v s2 w2 hv => ⟨x, y, rfl, hv, by show (thn X rest D).nx (σ.set i (some (.int (x - y)))) H2; rw [hz]; exact k H2 (w2.lessF s2)⟩⟩)
theorem ev_min2 {i j : Int} (hc : X.calm = true) (hm : X.mg "min" = none) (ha : EvF X a σ F M iR i) (hb : EvF X b σ F M iR j) (hg : Gl X "min" := by rfl) (he : starEach [a, b] X.env = (false, eval a X.env) :: starEach [b] X.env := by rfl) (he2 : starEach [b] X.env = (false, eval b X.env) :: starEach [] X.env := by rfl) (hpl : (backTo pos (starEach [b] X.env)).any (·.1) = false := by rfl) :
    EvF X (.Call (.Name "min" p) [a, b] [] pos) σ F M iR (min i j) :=
  fun F1 H1 s w Q q => we_of (pe_callB (call_min2 hc) hg hm (by decide +kernel) (pa_cons (pe_w a) (pa_cons (pe_w b) pa_nil he2) he) (he := he) (hpl := hpl)) (ha F1 H1 s w _ fun F2 H2 v s2 w2 hv => hb F2 H2 (s.trans s2) w2 _ fun F3 H3 u s3 w3 hu =>
    ⟨i, j, by rw [show v = V.int i from hv, show u = V.int j from hu], q F3 H3 _ (s2.trans s3) w3 (by show V.int _ = V.int _; congr 1; rw [Int.min_def]; split <;> split <;> omega)⟩)
theorem bx_eqB {i j : Bool} (ha : EvF X a σ F M bR i) (hb : EvF X b σ F M bR j) : Bx X (.Compare a [.Eq] [b] pos) σ F M (decide (i = j)) :=
  bx_c (ec_R op_eq ha hb (fun _ _ _ _ h => h) fun _ _ v u _ _ hv hu Q q => by
    cases (show v = V.bl i from hv); cases (show u = V.bl j from hu)
    refine ⟨rfl, ?_⟩
    rw [dec_bl]; exact q)
theorem bx_neB {i j : Bool} (ha : EvF X a σ F M bR i) (hb : EvF X b σ F M bR j) : Bx X (.Compare a [.NotEq] [b] pos) σ F M (!decide (i = j)) :=
  bx_c (ec_R op_ne ha hb (fun _ _ _ _ h => h) fun _ _ v u _ _ hv hu Q q => by
    cases (show v = V.bl i from hv); cases (show u = V.bl j from hu)
    refine ⟨rfl, ?_⟩
    rw [dec_bl]; exact q)
theorem oR_non {F : Hp} {v : V} {x : Option α} (hn : ∀ (F : Hp) (v : V) (y : α), r F v y → v ≠ .non) (h : oR r F v x) : decide (v = .non) = x.isNone := by
  cases x with
  | none => rw [show v = V.non from h]; rfl
  | some y => exact decide_eq_false (hn F v y h)
class NotN {α : Type} (r : Rep α) : Prop where
  nn : ∀ {F : Hp} {v : V} {y : α}, r F v y → v ≠ .non
instance : NotN iR := ⟨fun h => by cases h; exact fun z => nomatch z⟩
instance : NotN bR := ⟨fun h => by cases h; exact fun z => nomatch z⟩
instance : NotN sR := ⟨fun h => by cases h.1; exact fun z => nomatch z⟩
instance : NotN (lR r) := ⟨fun ⟨a, vs, e, _⟩ => by subst e; exact fun z => nomatch z⟩
instance : NotN (t2R r s) := ⟨fun ⟨a, _, _, e, _⟩ => by subst e; exact fun z => nomatch z⟩
instance : NotN (t3R r s t) := ⟨fun ⟨a, _, _, _, e, _⟩ => by subst e; exact fun z => nomatch z⟩
theorem bx_isN [NotN r] [m : Mono r] {x : Option α} {j q1} (ha : EvF X a σ F M (oR r) x) : Bx X (.Compare a [.Is] [.Constant .none j q1] pos) σ F M x.isNone :=
  bx_c (fun F1 H1 s w Q q => wc_of (pc_isN (pe_w a)) (ha F1 H1 s w _ fun F2 H2 v s2 w2 hv => by rw [oR_non (fun _ _ _ h => NotN.nn h) hv]; exact q F2 H2 s2 w2))
theorem bx_isNot [NotN r] [m : Mono r] {x : Option α} {j q1} (ha : EvF X a σ F M (oR r) x) : Bx X (.Compare a [.IsNot] [.Constant .none j q1] pos) σ F M (!x.isNone) :=
  bx_c (fun F1 H1 s w Q q => wc_of (pc_notN (pe_w a)) (ha F1 H1 s w _ fun F2 H2 v s2 w2 hv => by rw [oR_non (fun _ _ _ h => NotN.nn h) hv]; exact q F2 H2 s2 w2))
/-- x[i] = e, x a list of one's own -/
theorem ss_put {ix : Expr} {l : Addr} {vs : List V} {xs : List α} {x : α} {k : Int} (i : Nat) {q1 q2 : Pos} [m : Mono r] (hs : σ[i]? = some (some (.ref l))) (hM : M l = some (.lst vs)) (hA : A2 (r F) vs xs) (he : EvF X e σ F M r x) (hix : EvF X ix σ F M iR k) (w : Own F M H) (h0 : 0 ≤ k) (h1 : k < xs.length)
    (kk : ∀ F2 M2 H2 v, Same F F2 → M2 = upd M l (.lst (vs.set k.toNat v)) → Own F2 M2 H2 → A2 (r F2) (vs.set k.toNat v) (xs.set k.toNat x) → WSs X rest D σ H2) (hN : X.N[i]? = some n := by rfl)
    (hv : Vis X.env.scope n := by first | exact Or.inl rfl | exact Or.inr (Or.inl rfl) | exact Or.inr (Or.inr rfl)) (hd : (n == ("__debug__" : Str)) = false := by decide) (hcd : (n == ("__classdict__" : Str)) = false := by decide)
    (z1 : swapsWithSole [.Subscript (.Name n q1) ix q2] e pos.line X.env = pure false := by rfl) (z2 : swappedStores [.Subscript (.Name n q1) ix q2] e X.env = pure none := by rfl)
    (z3 : (assignEach [.Subscript (.Name n q1) ix q2] X.env).map (·.2) = [assign (.Subscript (.Name n q1) ix q2) X.env] := by rfl)
    (z4 : ∀ v, assign (.Subscript (.Name n q1) ix q2) X.env v = (do
      let ov ← holding [v] (eval (.Name n q1) X.env)
      let iv ← holding [v, ov] (eval ix X.env)
      standAt q2
      holding [v, ov, iv] (setItem ov iv v)
      release [v, ov, iv] []) := by intro _; rfl) :
    WSs X (.Assign [.Subscript (.Name n q1) ix q2] e pos :: rest) D σ H :=
  wss_cons (ws_of (ps_asg (pe_w e) (pg_sub (pe_var hN hv hd hcd) (pe_w ix) set_list z4) z1 z2 z3) (he F H (Same.refl _) w _ fun F2 H2 v s2 w2 hv => ⟨_, hs, hix F2 H2 s2 w2 _ fun F3 H3 u s3 w3 hu => by
    have hlen := hA.len
    refine ⟨l, vs, k, k.toNat, rfl, hu, w3.m _ _ hM, ?_, kk F3 _ _ v (s2.trans s3) rfl (w3.put hM) (A2.set (Mono.mono s3 hv) k.toNat (hA.up (s2.trans s3)))⟩
    unfold ixN
    rw [if_pos h0, if_pos (by omega)]⟩))
end
end Y

/-! ### sorted of tuples of so many ints each, any number of them -/
namespace Y
open PySem PySem.Spec PyProof.Rows L2
section
variable {prog : Program} {w : World} {A : Around} {E : Value → Shared → Prop} {s : Shared}
def IsTupI (h : Heap) (v : Value) (ns : List Int) : Prop := ∃ (a : Addr) (o : Obj) (its : List Value) (n : Nat), v = .ref a ∧ h.get? a = some o ∧ o.cls = .type "tuple" ∧ o.data = .seq its.toArray n ∧ IntsAre its ns
theorem IsTupI.keeps {h h' : Heap} {v : Value} {ns : List Int} (q : IsTupI h v ns) (k : ∀ b o, h.get? b = some o → o.cls = .type "tuple" → h'.get? b = some o) : IsTupI h' v ns :=
  let ⟨a, o, its, n, e, ho, hc, hd, hi⟩ := q; ⟨a, o, its, n, e, k _ _ ho hc, hc, hd, hi⟩
theorem katlex_ints : ∀ {us ws : List Value} {ns ms : List Int} {i : Nat}, IntsAre us ns → IntsAre ws ms → ns.length = ms.length →
    PySem.W.KatLex prog w A true false (fun r s' => s' = s ∧ r = HT.lexLt ns ms) (us.zip ws) i s
  | _, _, _, _, i, .nil, .nil, _ => PySem.W.kat_nil ⟨rfl, by rw [HT.lexLt_nil_nil]⟩
  | _, _, _, _, i, .nil, .cons _ _ _, e => by simp at e
  | _, _, _, _, i, .cons _ _ _, .nil, e => by simp at e
  | _, _, _, _, i, .cons (vs := us) x t hu, .cons (vs := ws) y u hw, e => by
    rw [List.zip_cons_cons]
    refine PySem.W.kat_cons (SeqAt.EqAt.int_int x t y u prog w _ _ ?_)
    refine PySem.W.kat_go (fun h1 => ?_) fun h1 => ?_
    · have exy : x = y := by simpa using h1
      have ih := katlex_ints (i := i + 1) hu hw (by simpa using e)
      rw [HT.lexLt_cons, if_pos exy]
      exact PySem.W.kat_yes ih
    · have nxy : ¬ x = y := by simpa using h1
      rw [HT.lexLt_cons, if_neg nxy]
      exact PySem.W.kat_no (TS.oneLt_ints _ ⟨rfl, rfl⟩)
theorem tupI_cmp {vs : List Value} {k : Value → List Int} {m : Nat} (hp : ∀ v ∈ vs, IsTupI s.heap v (k v) ∧ (k v).length = m) : SrtO.Cmp prog w A s (tuples' true) (fun p => p.1 ∈ vs) (SrtO.lt2 fun v u => HT.lexLt (k v) (k u)) := by
  intro p q hm hm'
  obtain ⟨⟨a, o, its, n, e, ho, hc, hd, hi⟩, l1⟩ := hp _ hm
  obtain ⟨⟨a', o', its', n', e', ho', hc', hd', hi'⟩, l2⟩ := hp _ hm'
  show wpAny (model prog w) A (keyLt' (tuples' true) p.1 q.1) (fun r s' => s' = s ∧ r = HT.lexLt (k p.1) (k q.1)) (fun _ _ => False) s
  generalize k p.1 = ns at *
  generalize k q.1 = ms at *
  rw [e, e']
  refine PySem.W.kat_lt ho hd ho' hd' ?_
  have z1 := hi.length
  have z2 := hi'.length
  have : decide (its.toArray.size < its'.toArray.size) = false := decide_eq_false (by simp; omega)
  rw [this]
  exact katlex_ints hi hi' (by omega)
theorem tupI_firsts {h : Heap} {k : Value → List Int} {m : Nat} (hm0 : 0 < m) : ∀ {vs : List Value}, (∀ v ∈ vs, IsTupI h v (k v) ∧ (k v).length = m) → ∃ fs : List Value, PySem.W.KatTups h vs fs ∧ fs.length = vs.length ∧ ∀ f ∈ fs, ∃ x t, f = Value.int x t
  | [], _ => ⟨[], .nil, rfl, fun _ hm => by simp at hm⟩
  | v :: vs, hp => by
    obtain ⟨fs, h1, h2, h3⟩ := tupI_firsts hm0 (vs := vs) fun v' hm => hp v' (List.mem_cons_of_mem _ hm)
    obtain ⟨⟨a, o, its, n, e, ho, hc, hd, hi⟩, hl⟩ := hp v List.mem_cons_self
    generalize k v = ns at *
    cases hi with
    | nil => simp at hl; omega
    | cons x t r =>
      refine ⟨.int x t :: fs, by rw [e]; exact PySem.W.KatTups.cons ho hc hd rfl h1, by simp [h2], fun f hf => ?_⟩
      rcases List.mem_cons.mp hf with rfl | hf
      · exact ⟨x, t, rfl⟩
      · exact h3 f hf
theorem tupI_sortable {a : Addr} {vs : List Value} {k : Value → List Int} {m : Nat} (hm0 : 0 < m) (h0 : 0 < vs.length) (hp : ∀ v ∈ vs, IsTupI s.heap v (k v) ∧ (k v).length = m) (ha : ∀ o, s.heap.get? a = some o → o.cls ≠ .type "tuple") :
    SrtO.SortableO prog w A s a vs fun v u => HT.lexLt (k v) (k u) := by
  intro h' keep
  have hp' : ∀ v ∈ vs, IsTupI h' v (k v) ∧ (k v).length = m := fun v hv => ⟨(hp v hv).1.keeps fun b o e c => keep b o (fun z => by subst z; exact ha o e c) e, (hp v hv).2⟩
  obtain ⟨fs, h1, h2, h3⟩ := tupI_firsts hm0 hp'
  refine ⟨tuples' true, fun Q E hq => ?_, tupI_cmp hp'⟩
  refine PySem.W.kat_kind (T := .type "int") h1 (by omega) (fun f hm => ?_) (by rfl) ?_
  · obtain ⟨x, t, rfl⟩ := h3 f hm
    exact PySem.W.Looks.now
  · rw [show (Value.type "int" != Value.type "tuple") = true by first | decide +kernel | rfl | decide]
    exact hq
theorem sorted_tupI {l : Addr} {vs : List Value} {k : Value → List Int} {m : Nat} {Q : Value → Shared → Prop} (hm0 : 0 < m) (hl : s.heap.IsList l vs.toArray) (hz : vs.length ≤ sizeLine) (hp : ∀ v ∈ vs, IsTupI s.heap v (k v) ∧ (k v).length = m)
    (h : ∀ (h' : Heap) (d : Addr) (out : List Value), SrtO.Srtd (fun v u => HT.lexLt (k v) (k u)) out → SrtO.Stb (fun v u => HT.lexLt (k v) (k u)) out vs → (∀ b o, s.heap.get? b = some o → h'.get? b = some o) → s.heap.objs.size ≤ d → (∃ n, h'.get? d = some (seqObj "list" out.toArray n)) → Q (.ref d) { s with heap := h' }) :
    wpAny (model prog w) A (call (.builtin "sorted") [.ref l]) Q E s := by
  refine SrtO.sorted_ord (NtL.swo_lexL k) hl hz (fun h2 h1 a ha kk => ?_) fun out hs hb => h _ _ out hs hb (fun b o e => sortedAll_old e) (Nat.le_succ _) (sortedAll_at s.heap vs out.toArray)
  refine tupI_sortable (s := { s with heap := h1 }) hm0 (by omega) (fun v hv => ⟨(hp v hv).1.keeps fun b o e _ => (kk b o e).2, (hp v hv).2⟩) fun o e => ?_
  have e' : some o = some (seqObj "list" vs.toArray 0) := e.symm.trans ha
  cases e'
  exact fun c => absurd (Value.type.inj c) (by decide)
end

/-- the ints of a tuple that stands in H -/
def keyV (H : Hp) (v : V) : List Int := match v with
  | .ref t => match H t with
    | some (.tup us) => us.filterMap fun u => match u with
      | .int i => some i
      | _ => none
    | _ => []
  | _ => []
theorem keyV_of {H : Hp} {t : Addr} {ns : List Int} (h : H t = some (.tup (ns.map V.int))) : keyV H (.ref t) = ns := by
  unfold keyV
  simp only [h]
  clear h
  induction ns with
  | nil => rfl
  | cons n ns ih => rw [List.map_cons, List.filterMap_cons]; exact congrArg (n :: ·) ih
def rSortedT (K : PySem.W.Frag) : List V → Hp → VK → Prop := fun vs H Q => ∃ (a : Addr) (xs : List V) (m : Nat), 0 < m ∧ vs = [V.ref a] ∧ SqL K H a xs ∧ (∀ x ∈ xs, ∃ (t : Addr) (ns : List Int), x = V.ref t ∧ H t = some (.tup (ns.map V.int)) ∧ ns.length = m) ∧
  ∀ ys p, ys.Perm xs → ys.Pairwise (fun x y => HT.lexLt (keyV H y) (keyV H x) = false) → H p = none → Q (.ref p) (upd H p (.lst ys))
section
variable {X : Cx}
theorem cr_sortedT : CallR X (.builtin "sorted") (rSortedT X.K) := by
  intro pins s σ H vs us Q I r h
  obtain ⟨a, xs, m, hm0, rfl, hs, hx, q⟩ := h
  obtain ⟨its, rv, hl, hz⟩ := I.list hs
  obtain ⟨u, rfl, ru⟩ := vals1 r
  obtain rfl : u = Value.ref a := ru
  obtain ⟨e1, e2⟩ := refs_back rv fun x hm => by
    obtain ⟨t, ns, e, _⟩ := hx x hm
    exact ⟨t, e⟩
  refine sorted_tupI (k := fun u => keyV H (backV u)) hm0 hl.isList (by rw [← rv.length]; exact hz) (fun v hv => ?_) fun h' d out h1 h2 kp hd hn => ?_
  · obtain ⟨t, rfl⟩ := e2 v hv
    have hm : V.ref t ∈ xs := by rw [e1]; exact List.mem_map.mpr ⟨_, hv, rfl⟩
    obtain ⟨t', ns, e, ht, hl⟩ := hx _ hm
    cases e
    obtain ⟨_, its2, r2, o, ho, hc, n, hd⟩ := I.hok _ _ ht
    have hk : keyV H (backV (Value.ref t)) = ns := keyV_of ht
    rw [hk]
    exact ⟨⟨t, o, its2, n, rfl, ho, hc, hd, r2.ints⟩, hl⟩
  · have h3 : ∀ u ∈ out, ∃ a, u = Value.ref a := fun u hu => e2 u (h2.perm.mem_iff.mp hu)
    obtain ⟨n, hn⟩ := hn
    have hp : (out.map backV).Perm xs := by rw [e1]; exact h2.perm.map backV
    have hlen : (out.map backV).length ≤ sizeLine := by rw [hp.length_eq]; exact hz
    exact ⟨.ref d, upd H d (.lst (out.map backV)), I.laid (t' := s.toks) kp hd ⟨hlen, out, n, vals_back h3, hn⟩, rfl, q _ d hp (List.pairwise_map.mpr h1) (I.hok.fresh hd)⟩
end

/-! the sorted list itself -/
def leK {α : Type} (key : α → List Int) (x y : α) : Bool := !HT.lexLt (key y) (key x)
def srtK {α : Type} (key : α → List Int) (xs : List α) : List α := xs.mergeSort (leK key)
theorem lex_anti : ∀ {xs ys : List Int}, xs.length = ys.length → HT.lexLt xs ys = false → HT.lexLt ys xs = false → xs = ys
  | [], [], _, _, _ => rfl
  | [], _ :: _, e, _, _ => by simp at e
  | _ :: _, [], e, _, _ => by simp at e
  | x :: xs, y :: ys, e, h1, h2 => by
    rw [HT.lexLt_cons] at h1 h2
    by_cases q : x = y
    · rw [if_pos q] at h1; rw [if_pos q.symm] at h2
      rw [q, lex_anti (by simpa using e) h1 h2]
    · rw [if_neg q] at h1; rw [if_neg (Ne.symm q)] at h2
      have := of_decide_eq_false h1; have := of_decide_eq_false h2
      omega
/-- two arrangements by one order that tells all things apart are one -/
theorem pw_uniq {α : Type} {R : α → α → Prop} : ∀ {xs ys : List α}, xs.Perm ys → xs.Pairwise R → ys.Pairwise R → (∀ x ∈ xs, ∀ y ∈ xs, R x y → R y x → x = y) → xs = ys
  | [], ys, h, _, _, _ => (List.nil_perm.mp h).symm
  | x :: xs, [], h, _, _, _ => absurd h (by simp)
  | x :: xs, y :: ys, h, h1, h2, ha => by
    have exy : x = y := by
      have m1 : y ∈ x :: xs := h.mem_iff.mpr (by simp)
      have m2 : x ∈ y :: ys := h.mem_iff.mp (by simp)
      rcases List.mem_cons.mp m1 with e | m1'
      · exact e.symm
      · rcases List.mem_cons.mp m2 with e | m2'
        · exact e
        · exact ha x (by simp) y m1 ((List.pairwise_cons.mp h1).1 y m1') ((List.pairwise_cons.mp h2).1 x m2')
    subst exy
    rw [pw_uniq h.cons_inv (List.pairwise_cons.mp h1).2 (List.pairwise_cons.mp h2).2 fun a ha' b hb' => ha a (List.mem_cons_of_mem _ ha') b (List.mem_cons_of_mem _ hb')]
theorem leK_trans {α : Type} {key : α → List Int} (x y z : α) (h1 : leK key x y = true) (h2 : leK key y z = true) : leK key x z = true := by
  unfold leK at *
  simp only [Bool.not_eq_true'] at *
  exact NtL.lex_tr _ _ _ h1 h2
theorem leK_total {α : Type} {key : α → List Int} (x y : α) : (leK key x y || leK key y x) = true := by
  unfold leK
  cases h : HT.lexLt (key y) (key x) with
  | false => rfl
  | true => rw [NtL.lex_asym _ _ h]; rfl
theorem srtK_perm {α : Type} {key : α → List Int} (xs : List α) : (srtK key xs).Perm xs := List.mergeSort_perm _ _
theorem srtK_pw {α : Type} {key : α → List Int} (xs : List α) : (srtK key xs).Pairwise fun x y => HT.lexLt (key y) (key x) = false := by
  have h := List.pairwise_mergeSort (le := leK key) leK_trans leK_total xs
  exact h.imp fun {a b} q => by unfold leK at q; simpa using q
theorem srtK_uniq {α : Type} {key : α → List Int} {xs ys : List α} {m : Nat} (hk : ∀ x ∈ xs, (key x).length = m) (inj : ∀ x y, key x = key y → x = y) (hp : ys.Perm xs) (h : ys.Pairwise fun x y => HT.lexLt (key y) (key x) = false) : ys = srtK key xs :=
  pw_uniq (hp.trans (srtK_perm xs).symm) h (srtK_pw xs) fun x hx y hy h1 h2 => inj x y (lex_anti (by rw [hk x (hp.mem_iff.mp hx), hk y (hp.mem_iff.mp hy)]) h2 h1)
theorem srtK_mem {α : Type} {key : α → List Int} {xs : List α} {x : α} : x ∈ srtK key xs ↔ x ∈ xs := (srtK_perm xs).mem_iff
theorem srtK_len {α : Type} {key : α → List Int} {xs : List α} : (srtK key xs).length = xs.length := (srtK_perm xs).length_eq
/-- what stands for a tuple of ints -/
class TupI {α : Type} (r : Rep α) where
  key : α → List Int
  m : Nat
  pos : 0 < m
  len : ∀ x, (key x).length = m
  inj : ∀ x y, key x = key y → x = y
  tup : ∀ {F : Hp} {v : V} {x : α}, r F v x → ∃ t, v = .ref t ∧ F t = some (.tup ((key x).map V.int))
instance : TupI (t2R iR iR) where
  key := fun x => [x.1, x.2]
  m := 2
  pos := by decide
  len := fun _ => rfl
  inj := fun x y h => by cases x; cases y; simp at h; simp [h]
  tup := fun ⟨a, u, w, e, h, h1, h2⟩ => ⟨a, e, by cases h1; cases h2; exact h⟩
instance : TupI (t3R iR iR iR) where
  key := fun x => [x.1, x.2.1, x.2.2]
  m := 3
  pos := by decide
  len := fun _ => rfl
  inj := fun x y h => by obtain ⟨a, b, c⟩ := x; obtain ⟨a', b', c'⟩ := y; simp at h; simp [h]
  tup := fun ⟨a, u, w, z, e, h, h1, h2, h3⟩ => ⟨a, e, by cases h1; cases h2; cases h3; exact h⟩
theorem A2.perm' {α β : Type} {p : α → β → Prop} {as as' : List α} (h : as.Perm as') : ∀ {bs : List β}, A2 p as bs → ∃ bs' : List β, bs'.Perm bs ∧ A2 p as' bs' := by
  induction h with
  | nil => exact fun {bs} t => ⟨bs, .refl _, t⟩
  | cons a _ ih =>
    intro bs t
    cases t with
    | cons q t =>
      obtain ⟨bs', h1, h2⟩ := ih t
      exact ⟨_, h1.cons _, .cons q h2⟩
  | swap a b l =>
    intro bs t
    cases t with
    | cons q1 t => cases t with
      | cons q2 t => exact ⟨_, .swap _ _ _, .cons q2 (.cons q1 t)⟩
  | trans _ _ ih1 ih2 =>
    intro bs t
    obtain ⟨b1, h1, t1⟩ := ih1 t
    obtain ⟨b2, h2, t2⟩ := ih2 t1
    exact ⟨b2, h2.trans h1, t2⟩
theorem A2.perm {α β : Type} {p : α → β → Prop} {as as' : List α} {bs : List β} (h : as'.Perm as) (t : A2 p as bs) : ∃ bs' : List β, bs'.Perm bs ∧ A2 p as' bs' := A2.perm' h.symm t
theorem A2.pw {α β : Type} {p : α → β → Prop} {R : α → α → Prop} {S : β → β → Prop} (f : ∀ a b a' b', p a b → p a' b' → R a a' → S b b') : ∀ {as : List α} {bs : List β}, A2 p as bs → as.Pairwise R → bs.Pairwise S
  | _, _, .nil, _ => .nil
  | _, _, .cons q t, h => by
    rw [List.pairwise_cons] at h ⊢
    refine ⟨fun b hb => ?_, t.pw f h.2⟩
    obtain ⟨i, hi⟩ := List.getElem?_of_mem hb
    obtain ⟨a, ha, hp⟩ := t.get hi
    exact f _ _ _ _ q hp (h.1 a (List.mem_of_getElem? ha))
section
variable {X : Cx} {σ : L2.St} {F M H : Hp} {a b c e : Expr} {pos p p2 : Pos} {α β γ δ : Type} {r : Rep α}
theorem en_sortedT [m : Mono r] [t : TupI r] {xs : List α} (hm : X.mg "sorted" = none) (ha : EvF X a σ F M (rdR X.K M r) xs) (hg : Gl X "sorted" := by rfl) (he : starEach [a] X.env = (false, eval a X.env) :: starEach [] X.env := by rfl) (hpl : (backTo pos (starEach [] X.env)).any (·.1) = false := by rfl) :
    EvN X (.Call (.Name "sorted" p) [a] [] pos) σ F M r (srtK t.key xs) :=
  fun F1 H1 s w Q q => we_of (pe_callB cr_sortedT hg hm (by decide +kernel) (pa_cons (pe_w a) pa_nil he) (he := he) (hpl := hpl)) (ha F1 H1 s w _ fun F2 H2 v s2 w2 ⟨l, vs, e, hl, h2⟩ =>
    ⟨l, vs, t.m, t.pos, by rw [e], w2.sq hl, fun x hx => by
      obtain ⟨i, hi⟩ := List.getElem?_of_mem hx
      obtain ⟨y, hy, hr⟩ := h2.getL hi
      obtain ⟨u, hu, ht⟩ := t.tup hr
      exact ⟨u, _, hu, w2.f _ _ ht, t.len y⟩, fun ys p hp hpw hn => by
      obtain ⟨xs', hp', hA⟩ := A2.perm hp h2
      have hkey : ∀ v x, r F2 v x → keyV H2 v = t.key x := fun v x hr => by
        obtain ⟨u, hu, ht⟩ := t.tup hr
        rw [hu]; exact keyV_of (w2.f _ _ ht)
      have hs : xs' = srtK t.key xs := srtK_uniq (m := t.m) (fun x _ => t.len x) t.inj hp' (hA.pw (fun a b a' b' h1 h2 h3 => by rw [← hkey _ _ h1, ← hkey _ _ h2]; exact h3) hpw)
      rw [hs] at hA
      exact q F2 _ p ys s2 ⟨same_in w2.f (w2.noF hn), same_in w2.m (w2.noM hn), w2.d, w2.t⟩ (w2.noF hn) (w2.noM hn) upd_same hA⟩)
/-- sorted of ints -/
def srtI (xs : List Int) : List Int := xs.mergeSort (fun x y => decide (x ≤ y))
theorem srtI_perm (xs : List Int) : (srtI xs).Perm xs := List.mergeSort_perm _ _
theorem srtI_pw (xs : List Int) : (srtI xs).Pairwise (· ≤ ·) :=
  (List.pairwise_mergeSort (le := fun x y : Int => decide (x ≤ y)) (fun a b c h1 h2 => by simp at *; omega) (fun a b => by simp; omega) xs).imp fun {a b} h => by simpa using h
theorem srtI_uniq {xs ys : List Int} (hp : ys.Perm xs) (h : ys.Pairwise (· ≤ ·)) : ys = srtI xs := pw_uniq (hp.trans (srtI_perm xs).symm) h (srtI_pw xs) fun x _ y _ h1 h2 => by omega
theorem srtI_len {xs : List Int} : (srtI xs).length = xs.length := (srtI_perm xs).length_eq
theorem en_sortedI {xs : List Int} (hm : X.mg "sorted" = none) (ha : EvF X a σ F M (rdR X.K M iR) xs) (hg : Gl X "sorted" := by rfl) (he : starEach [a] X.env = (false, eval a X.env) :: starEach [] X.env := by rfl) (hpl : (backTo pos (starEach [] X.env)).any (·.1) = false := by rfl) :
    EvN X (.Call (.Name "sorted" p) [a] [] pos) σ F M iR (srtI xs) :=
  fun F1 H1 s w Q q => we_of (pe_callB cr_sortedI hg hm (by decide +kernel) (pa_cons (pe_w a) pa_nil he) (he := he) (hpl := hpl)) (ha F1 H1 s w _ fun F2 H2 v s2 w2 ⟨l, vs, e, hl, h2⟩ =>
    ⟨l, xs, by rw [e], by rw [← iR_map h2]; exact w2.sq hl, fun ns p hp hpw hn => by
      rw [srtI_uniq hp hpw]
      exact q F2 _ p _ s2 ⟨same_in w2.f (w2.noF hn), same_in w2.m (w2.noM hn), w2.d, w2.t⟩ (w2.noF hn) (w2.noM hn) upd_same (A2.mapI V.int _)⟩)
end
end Y

/-! ### sorted(set(xs)), xs a list of ints -/
namespace Y
open PySem PySem.Spec PyProof.Rows L2
section
variable {P : Program} {w : World} {A : Around} {E : Value → Shared → Prop} {s : Shared}
/-- a new set, as it is laid -/
def sNew (w : World) : Obj := { cls := .type "set", dict := none, data := .set #[] 0 (.fresh 0 0 (!w.params.followText "set-order")) }
/-- behind set(l): the set of these ints stands at the next address, all else as it was -/
def SetMade (w : World) (s s2 : Shared) (ns : List Int) : Prop := ∃ (h' : Heap) (tk c : Nat), s2 = { s with heap := h', toks := tk } ∧ SetR w h' s.heap.objs.size (fun j => decide (j ∈ ns)) c ∧ c ≤ ns.length ∧ (∀ b o, s.heap.get? b = some o → h'.get? b = some o)
theorem set_of_list {l : Addr} {items : Array Value} (ns : List Int) {Q : Value → Shared → Prop} (hh : A.handled = none) (hl : s.heap.IsList l items) (hit : IntsAre items.toList ns) (hb : ns.length + 1 < scanBound)
    (h : ∀ s2, SetMade w s s2 ns → Q (.ref s.heap.objs.size) s2) : wpAny (model P w) A (call (.type "set") [.ref l]) Q E s := by
  have hn : items.size = ns.length := by have q := hit.length; simpa using q
  obtain ⟨cc, tt, hmro⟩ := F.called_set.mro
  have z1 := F.called_set.made
  have z2 := F.called_set.sub
  refine wpAny_call (codeAny_of_tree ?_)
  show wpAny _ _ (callAny (.type "set") _) _ _ _
  refine wpAny_pure ⟨Code.quiet_builtin _ (by decide +kernel), codeAny_builtin F.entry_type_call ?_⟩
  rw [Around.under_plain (weight_type_call_type "set" [.ref l] []) rfl]
  have z3 := F.called_set.notType
  have z4 := F.called_set.canCreate
  have z5 := F.typeCall_set_1 (.ref l)
  repeat (any_goals (first | assumption | wp_step))
  refine codeAny_mono (code_set_led1 (.ref l) (E := E) (Q₁ := fun obj t => obj = .ref s.heap.objs.size ∧ t = { s with heap := s.heap.push (sNew w) }) ⟨rfl, rfl⟩) fun r t hr => ?_
  match r, hr with
  | .error e, hr => exact hr
  | .ok .next, hr => exact hr.elim
  | .ok .brk, hr => exact hr.elim
  | .ok .cont, hr => exact hr.elim
  | .ok (.ret obj), hr =>
    obtain ⟨rfl, rfl⟩ := hr
    have at0 : (s.heap.push (sNew w)).get? s.heap.objs.size = some (sNew w) := Heap.get?_push_size _ rfl
    have ty0 : Shared.TypeIs { s with heap := s.heap.push (sNew w) } (.ref s.heap.objs.size) "set" := ⟨_, at0, rfl⟩
    have z6 := F.called_set.init.lookup
    have z7 := F.called_set.init.bind (.ref s.heap.objs.size)
    repeat (any_goals (first | assumption | wp_step))
    refine codeAny_mono (codeAny_call_builtin (R := wants (fun r t => r = .none ∧ SetMade w s t ns) E) F.called_set.init.plain F.entry_set_init (check_set_init_1 ty0 ?_)) fun r2 t2 hr2 => ?_
    · obtain ⟨ol, hol, hcl, nl, hdl⟩ := hl
      obtain ⟨ocls, odict, odata, oslots⟩ := ol
      simp only at hcl hdl
      subst hcl hdl
      have hol1 : (s.heap.push (sNew w)).get? l = some { cls := .type "list", dict := odict, data := .seq items nl, slots := oslots } := Heap.get?_push_of_some _ hol
      have y1 := F.sub_list_set
      have y2 := F.sub_list_frozenset
      have y3 : (Value.type "list" == Value.type "dict") = false := by decide
      have hl1 : (s.heap.push (sNew w)).IsList l items := ⟨_, hol1, rfl, nl, rfl⟩
      unfold Builtin.«set.__init__» noKeywords Builtin.Frozenset.updateFrom
      generalize hPI : pyIter = PI
      wp_walk
      subst hPI
      refine wpAny_pyIter_list hl1 (wpAny_bind (wpAny_runValue ?_))
      have lt0 : l < s.heap.objs.size := Heap.lt_size hol
      have hd3 : A.in1.in1.in1.handled = none := by simp [hh]
      have sz1 : (s.heap.push (sNew w)).objs.size = s.heap.objs.size + 1 := Heap.size_push ..
      have ne1 : l ≠ (s.heap.push (sNew w)).objs.size := by rw [sz1]; exact Nat.ne_of_lt (Nat.lt_succ_of_lt lt0)
      have nin : s.heap.objs.size ∉ [(s.heap.push (sNew w)).objs.size, l] := by
        rw [sz1]
        intro q
        rcases List.mem_cons.mp q with q | q
        · exact absurd q (Nat.ne_of_lt (Nat.lt_succ_self _))
        · exact absurd (List.mem_singleton.mp q) (Nat.ne_of_gt lt0)
      have val : ∀ (i : Nat) (v : Value), items[i]? = some v → ∃ k t, ns[i]? = some k ∧ v = .int k t := fun i v hv => by
        have hi : i < ns.length := by rw [← hn]; exact (Array.getElem?_eq_some_iff.mp hv).1
        obtain ⟨t, e⟩ := PyProof.Rows.IntsAre.int_at hit i v (by rw [Array.getElem?_toList]; exact hv)
        exact ⟨ns[i], t, List.getElem?_eq_getElem hi, by rw [e]; simp [hi]⟩
      refine set_update_ints ((Walks.list hd3 _ l ne1 items).toS) s.heap.objs.size nin ns hn hb val (items.size - 0) 0 _ (by omega) (Nat.zero_le _) ⟨⟨_, Heap.get?_push_size _ rfl, rfl, rfl⟩, hl1.push _⟩ ?st ?fin
      case st => exact ⟨0, Nat.le_refl 0, setR_new_at (Heap.get?_push_of_some _ at0)⟩
      case fin =>
        rintro ⟨h', g2, d', tk', os'⟩ c' hm hc' hS'
        obtain rfl : g2 = s.gens := hm.gens
        obtain rfl : d' = s.drawn := hm.drawn
        obtain rfl : os' = s.os := hm.os
        show wpAny _ _ _ _ _ _
        refine wpAny_pure ?_
        show wpAny _ _ (ret Value.none) _ _ _
        refine wpAny_pure ⟨rfl, h', tk', c', rfl, hS', by rw [← hn]; exact hc', fun b o e => ?_⟩
        have lb : b < s.heap.objs.size := Heap.lt_size e
        refine hm.heap b o (fun q => ?_) (Heap.get?_push_of_some _ (Heap.get?_push_of_some _ e))
        rcases List.mem_cons.mp q with q | q
        · exact absurd q (Nat.ne_of_lt lb)
        · rw [List.mem_singleton, sz1] at q
          exact absurd q (Nat.ne_of_lt (Nat.lt_succ_of_lt lb))
    · match r2, hr2 with
      | .error e, hr2 => exact hr2
      | .ok .next, hr2 => exact hr2.elim
      | .ok .brk, hr2 => exact hr2.elim
      | .ok .cont, hr2 => exact hr2.elim
      | .ok (.ret r), hr2 =>
        obtain ⟨rfl, hM⟩ := hr2
        have hM' := id hM
        obtain ⟨h', tk, c, rfl, _⟩ := hM'
        repeat (any_goals (first | assumption | wp_step))
        exact h _ hM
end

/-- a list's ints, each once, rising -/
def insU (x : Int) : List Int → List Int
  | [] => [x]
  | y :: t => if x < y then x :: y :: t else if x = y then y :: t else y :: insU x t
def uset (xs : List Int) : List Int := xs.foldr insU []
theorem mem_insU {x k : Int} : ∀ {xs : List Int}, k ∈ insU x xs ↔ k = x ∨ k ∈ xs
  | [] => by simp [insU]
  | y :: t => by
    unfold insU
    by_cases h : x < y
    · rw [if_pos h]; simp
    · rw [if_neg h]
      by_cases h2 : x = y
      · rw [if_pos h2, h2]; simp
      · rw [if_neg h2, List.mem_cons, mem_insU, List.mem_cons]
        constructor
        · rintro (h | h | h) <;> simp [h]
        · rintro (h | h | h) <;> simp [h]
theorem mem_uset {k : Int} : ∀ {xs : List Int}, k ∈ uset xs ↔ k ∈ xs
  | [] => by simp [uset]
  | x :: t => by
    show k ∈ insU x (uset t) ↔ _
    rw [mem_insU, mem_uset, List.mem_cons]
theorem pw_insU {x : Int} : ∀ {xs : List Int}, xs.Pairwise (· < ·) → (insU x xs).Pairwise (· < ·)
  | [], _ => List.pairwise_singleton _ _
  | y :: t, h => by
    obtain ⟨h1, h2⟩ := List.pairwise_cons.mp h
    unfold insU
    by_cases a : x < y
    · rw [if_pos a]
      refine List.pairwise_cons.mpr ⟨fun z hz => ?_, h⟩
      rcases List.mem_cons.mp hz with rfl | hz
      · exact a
      · have := h1 z hz; omega
    · rw [if_neg a]
      by_cases b : x = y
      · rw [if_pos b]; exact h
      · rw [if_neg b]
        refine List.pairwise_cons.mpr ⟨fun z hz => ?_, pw_insU h2⟩
        rcases mem_insU.mp hz with rfl | hz
        · omega
        · exact h1 z hz
theorem pw_uset : ∀ xs : List Int, (uset xs).Pairwise (· < ·)
  | [] => .nil
  | x :: t => pw_insU (pw_uset t)
theorem lt_uniq : ∀ {xs ys : List Int}, xs.Pairwise (· < ·) → ys.Pairwise (· < ·) → (∀ k, k ∈ xs ↔ k ∈ ys) → xs = ys
  | [], [], _, _, _ => rfl
  | [], y :: ys, _, _, h => absurd ((h y).mpr (by simp)) (by simp)
  | x :: xs, [], _, _, h => absurd ((h x).mp (by simp)) (by simp)
  | x :: xs, y :: ys, h1, h2, h => by
    obtain ⟨a1, a2⟩ := List.pairwise_cons.mp h1
    obtain ⟨b1, b2⟩ := List.pairwise_cons.mp h2
    have e : x = y := by
      rcases List.mem_cons.mp ((h x).mp (by simp)) with q | q
      · exact q
      · rcases List.mem_cons.mp ((h y).mpr (by simp)) with q2 | q2
        · exact q2.symm
        · have := b1 x q; have := a1 y q2; omega
    subst e
    rw [lt_uniq a2 b2 fun k => ?_]
    constructor
    · intro hk
      rcases List.mem_cons.mp ((h k).mp (List.mem_cons_of_mem _ hk)) with q | q
      · have := a1 k hk; omega
      · exact q
    · intro hk
      rcases List.mem_cons.mp ((h k).mpr (List.mem_cons_of_mem _ hk)) with q | q
      · have := b1 k hk; omega
      · exact q
section
variable {P : Program} {w : World} {A : Around} {E : Value → Shared → Prop} {s : Shared} {a : Addr}
/-- sorted of a set of ints, however many -/
theorem sorted_setN {S : Int → Bool} {n : Nat} {Q : Value → Shared → Prop} (R : SetR w s.heap a S n) (hh : A.handled = none)
    (hQ : ∀ s' p (out : Array Value) (c : Nat) (ns : List Int), (∀ b o, s.heap.get? b = some o → s'.heap.get? b = some o) → s'.gens = s.gens → s'.os = s.os → s.heap.objs.size ≤ p →
      s'.heap.get? p = some (seqObj "list" out c) → IntsAre out.toList ns → ns.Pairwise (· < ·) → (∀ k, k ∈ ns ↔ S k = true) → ns.length ≤ sizeLine → Q (.ref p) s') : wpAny (model P w) A (call (.builtin "sorted") [.ref a]) Q E s := by
  obtain ⟨o, es, ep, t, ho, hex, hd, g, nd, hm, hb, hf, hn, hr, hl⟩ := R
  refine Calls.call_function_entry kind_sorted plain_sorted entry_sorted (args_sorted1 _) ?_
  unfold Builtin.«sorted»
  refine wpAny_bind (m := checkCount "sorted" 1 1 _) (wpAny_pure (wpAny_bind ?_))
  refine collect_set (A := A.in1) hh ⟨o, ho, hex.1, hd⟩ hf hb hr hl fun s1 vs k1 hz g1 o1 pm => ?_
  have hle : vs.length ≤ sizeLine := by
    rw [pm.length_eq, List.length_map, Array.length_toList]
    exact Nat.le_of_lt (Nat.lt_of_lt_of_le hb (by decide))
  have hI : IntsAre vs (vs.map Builtin.Re.reRawOf) := ints_of vs fun v hv => by
    obtain ⟨e, he, q⟩ := List.mem_map.mp (pm.mem_iff.mp hv)
    obtain ⟨k, tk, z, _⟩ := g e he
    exact ⟨k, tk, q ▸ z⟩
  have pk : (vs.map Builtin.Re.reRawOf).Perm (es.toList.map keyOf) := by have q := pm.map Builtin.Re.reRawOf; rwa [List.map_map] at q
  refine wpAny_bind (wpAny_newList ?_ hle)
  have at1 : (s1.heap.push (seqObj "list" vs.toArray 0)).get? s1.heap.objs.size = some (seqObj "list" vs.toArray 0) := Heap.get?_push_size _ rfl
  refine wpAny_bind (wpAny_holding (wpAny_call_entry slot_list_sort ⟨_, at1, rfl⟩ entry_list_sort (SrtO.list_sort_ord SrtO.swo_int at1 hle (fun h2 => SrtO.ints_sortable hI h2) fun out h1 h2 => ⟨_, rfl, ?_⟩) (args_list_sort _)))
  obtain ⟨a1, a2, a3⟩ := SrtO.ints_out hI h1 h2
  obtain ⟨c, hc⟩ := sortedHeap_at (vs := vs) (out := out.toArray) at1
  have pn := a2.trans pk
  refine wpAny_pure ⟨_, rfl, hQ _ s1.heap.objs.size out.toArray c _ (fun b u e => ?_) g1 o1 hz hc (by simpa using a1) (lt_of_le_nodup _ a3 (pn.nodup_iff.mpr nd)) (fun k => by rw [pn.mem_iff, ← hm k]) ?_⟩
  · have q := k1 b u e
    have lt := Heap.lt_size q
    show (sortedHeap (s1.heap.push (seqObj "list" vs.toArray 0)) s1.heap.objs.size vs out.toArray).get? b = some u
    rw [sortedHeap_old (Nat.ne_of_lt lt) (by rw [size_push']; exact Nat.lt_succ_of_lt lt)]
    exact Heap.get?_push_of_some _ q
  · rw [a2.length_eq, List.length_map]; exact hle
end
def rSetL (K : PySem.W.Frag) (w : World) : List V → Hp → VK → Prop := fun vs H Q => ∃ (a : Addr) (ns : List Int), vs = [V.ref a] ∧ SqL K H a (ns.map V.int) ∧ ns.length < 2000 ∧ ∀ p c, H p = none → Q (.ref p) (upd H p (SetO w p (fun j => decide (j ∈ ns)) c))
def rSortedSetN (w : World) : List V → Hp → VK → Prop := fun vs H Q => ∃ (a : Addr) (S : Int → Bool) (n : Nat), vs = [V.ref a] ∧ H a = some (SetO w a S n) ∧ ∀ (ns : List Int) (p : Addr), ns.Pairwise (· < ·) → (∀ k : Int, k ∈ ns ↔ S k = true) → H p = none → Q (.ref p) (upd H p (.lst (ns.map V.int)))
section
variable {X : Cx}
theorem cr_setL (hc : X.calm = true) : CallR X (.type "set") (rSetL X.K X.w) := by
  intro pins s σ H vs us Q I r h
  obtain ⟨a, ns, rfl, hs, hz, q⟩ := h
  obtain ⟨its, rv, hl, _⟩ := I.list hs
  rw [Vals.ref1 r]
  refine set_of_list ns (I.ok.hd hc) hl.isList (by simpa using rv.ints) (by unfold scanBound; omega) fun s2 hM => ?_
  obtain ⟨h', tk, c, rfl, hR, hcl, kp⟩ := hM
  have hn : H s.heap.objs.size = none := I.hok.fresh (Nat.le_refl _)
  exact ⟨.ref s.heap.objs.size, _, I.laid (t' := tk) kp (Nat.le_refl _) (setO_new hR), rfl, q _ c hn⟩
theorem cr_sortedSetN (hc : X.calm = true) : CallR X (.builtin "sorted") (rSortedSetN X.w) := by
  intro pins s σ H vs us Q I r h
  obtain ⟨a, S, n, rfl, ha, q⟩ := h
  have R := setO_get I ha
  rw [Vals.ref1 r]
  refine sorted_setN R (I.ok.hd hc) fun s' p out c ns k g o hp hg hi hs hm hl => ?_
  have hn : H p = none := I.hok.fresh hp
  have hle : (ns.map V.int).length ≤ sizeLine := by rw [List.length_map]; exact hl
  obtain ⟨h', g', d', t', o'⟩ := s'
  obtain rfl : g' = s.gens := g
  obtain rfl : o' = s.os := o
  exact ⟨.ref p, upd H p (.lst (ns.map V.int)), I.call (ch := []) (d' := d') (t' := t') (Un.laid k hp hn) (I.hok.laid k hp ⟨hle, out.toList, c, vals_of_ints hi, by simpa using hg⟩) I.bare (fun _ z => nomatch z), rfl, q ns p hs hm hn⟩
variable {σ : L2.St} {F M H : Hp} {a b c e : Expr} {pos p p2 pos2 : Pos}
theorem en_sortedSet {xs : List Int} (hc : X.calm = true) (hm : X.mg "sorted" = none) (hm2 : X.mg "set" = none) (ha : EvF X a σ F M (rdR X.K M iR) xs) (hz : xs.length < 2000) (hg : Gl X "sorted" := by rfl) (hg2 : Gl X "set" := by rfl)
    (he : starEach [a] X.env = (false, eval a X.env) :: starEach [] X.env := by rfl) (hpl : (backTo pos2 (starEach [] X.env)).any (·.1) = false := by rfl)
    (he2 : starEach [.Call (.Name "set" p2) [a] [] pos2] X.env = (false, eval (.Call (.Name "set" p2) [a] [] pos2) X.env) :: starEach [] X.env := by rfl) (hpl2 : (backTo pos (starEach [] X.env)).any (·.1) = false := by rfl) :
    EvN X (.Call (.Name "sorted" p) [.Call (.Name "set" p2) [a] [] pos2] [] pos) σ F M iR (uset xs) :=
  fun F1 H1 s w Q q => we_of (pe_callB (cr_sortedSetN hc) hg hm (by decide +kernel) (pa_cons (pe_callTy (cr_setL hc) hg2 hm2 (by decide +kernel) (pa_cons (pe_w a) pa_nil he) (he := he) (hpl := hpl)) pa_nil he2) (he := he2) (hpl := hpl2)) (ha F1 H1 s w _ fun F2 H2 v s2 w2 ⟨l, vs, e, hl, h2⟩ =>
    ⟨l, xs, by rw [e], by rw [← iR_map h2]; exact w2.sq hl, hz, fun p' c' hp' => ⟨p', _, c', rfl, upd_same, fun ns p1 hpw hmem hn => by
      have e : ns = uset xs := lt_uniq hpw (pw_uset xs) fun k => by rw [hmem k, mem_uset]; simp
      rw [e]
      have w3 : Own F2 M (upd H2 p' (SetO X.w p' (fun j => decide (j ∈ xs)) c')) := ⟨same_in w2.f (w2.noF hp'), same_in w2.m (w2.noM hp'), w2.d, w2.t⟩
      exact q F2 _ p1 _ s2 ⟨same_in w3.f (w3.noF hn), same_in w3.m (w3.noM hn), w3.d, w3.t⟩ (w3.noF hn) (w3.noM hn) upd_same (A2.mapI V.int _)⟩⟩)
end
end Y

/-! ### dicts -/
namespace Y
open PySem PySem.Spec PyProof.Rows L2
/-- things as keys of a dict: ints, texts -/
class KeyT (κ : Type) where
  k : κ → Key
  inj : ∀ x y, k x = k y → x = y
  rk : V → κ → Prop
  v : ∀ {v : V} {x : κ}, rk v x → v = kV (k x)
abbrev KeyT.rep {κ : Type} [t : KeyT κ] : Rep κ := fun _ v x => t.rk v x
instance : KeyT Int := ⟨.inl, fun _ _ h => Sum.inl.inj h, fun v x => v = .int x, fun h => h⟩
instance : KeyT Str := ⟨.inr, fun _ _ h => Sum.inr.inj h, fun v x => v = .str x ∧ PyData.canLay0 (.str x) = true, fun h => h.1⟩
instance {κ : Type} [t : KeyT κ] : Mono (KeyT.rep (κ := κ)) := ⟨fun _ h => h⟩
section
variable {κ α : Type} [DecidableEq κ]
/-- what a dict's pairs hold at a key; with a key stored; without a key -/
def lk (k : κ) : List (κ × α) → Option α
  | [] => none
  | p :: t => if p.1 = k then some p.2 else lk k t
def pt (k : κ) (x : α) : List (κ × α) → List (κ × α)
  | [] => [(k, x)]
  | p :: t => if p.1 = k then (p.1, x) :: t else p :: pt k x t
theorem lk_none {k : κ} : ∀ {kvs : List (κ × α)}, lk k kvs = none ↔ k ∉ kvs.map (·.1)
  | [] => by simp [lk]
  | p :: t => by
    unfold lk
    by_cases h : p.1 = k
    · simp [h]
    · rw [if_neg h, lk_none, List.map_cons, List.mem_cons]
      constructor
      · rintro z (e | e)
        · exact h e.symm
        · exact z e
      · exact fun z e => z (.inr e)
theorem lk_some {k : κ} {x : α} : ∀ {kvs : List (κ × α)}, lk k kvs = some x → (k, x) ∈ kvs
  | [], h => by cases h
  | p :: t, h => by
    unfold lk at h
    by_cases q : p.1 = k
    · rw [if_pos q] at h; cases h; subst q; exact List.mem_cons_self
    · rw [if_neg q] at h; exact List.mem_cons_of_mem _ (lk_some h)
theorem lk_mem {k : κ} {x : α} : ∀ {kvs : List (κ × α)}, (kvs.map (·.1)).Nodup → ((k, x) ∈ kvs ↔ lk k kvs = some x)
  | [], _ => by simp [lk]
  | p :: t, h => by
    rw [List.map_cons, List.nodup_cons] at h
    unfold lk
    by_cases q : p.1 = k
    · rw [if_pos q, List.mem_cons]
      constructor
      · rintro (e | e)
        · rw [← e]
        · exact absurd (List.mem_map.mpr ⟨_, e, rfl⟩) (q ▸ h.1)
      · intro e
        cases e
        subst q
        exact .inl rfl
    · rw [if_neg q, List.mem_cons, ← lk_mem h.2]
      constructor
      · rintro (e | e)
        · exact absurd (by rw [← e]) q
        · exact e
      · exact .inr
theorem lk_pt (k j : κ) (x : α) : ∀ kvs : List (κ × α), lk j (pt k x kvs) = if k = j then some x else lk j kvs
  | [] => by simp [pt, lk]
  | p :: t => by
    unfold pt
    by_cases h : p.1 = k
    · rw [if_pos h]
      unfold lk
      rw [h]
      by_cases q : k = j <;> simp [q]
    · rw [if_neg h]
      unfold lk
      rw [lk_pt k j x t]
      by_cases q : p.1 = j
      · have : ¬ k = j := fun z => h (q.trans z.symm)
        simp [q, this]
      · simp [q]
theorem pt_len (k : κ) (x : α) : ∀ kvs : List (κ × α), (pt k x kvs).length ≤ kvs.length + 1
  | [] => by simp [pt]
  | p :: t => by
    unfold pt
    split
    · simp
    · have := pt_len k x t; simp; omega
theorem pt_keys (k j : κ) (x : α) : ∀ kvs : List (κ × α), j ∈ (pt k x kvs).map (·.1) ↔ j = k ∨ j ∈ kvs.map (·.1)
  | [] => by simp [pt]
  | p :: t => by
    unfold pt
    by_cases h : p.1 = k
    · rw [if_pos h]; simp only [List.map_cons, List.mem_cons, h]
      constructor
      · exact .inr
      · rintro (e | e)
        · exact .inl e
        · exact e
    · rw [if_neg h]
      simp only [List.map_cons, List.mem_cons, pt_keys k j x t]
      constructor
      · rintro (e | e | e)
        · exact .inr (.inl e)
        · exact .inl e
        · exact .inr (.inr e)
      · rintro (e | e | e)
        · exact .inr (.inl e)
        · exact .inl e
        · exact .inr (.inr e)
theorem pt_nodup (k : κ) (x : α) : ∀ {kvs : List (κ × α)}, (kvs.map (·.1)).Nodup → ((pt k x kvs).map (·.1)).Nodup
  | [], _ => by simp [pt]
  | p :: t, h => by
    rw [List.map_cons, List.nodup_cons] at h
    unfold pt
    by_cases q : p.1 = k
    · rw [if_pos q, List.map_cons, List.nodup_cons]; exact h
    · rw [if_neg q, List.map_cons, List.nodup_cons, pt_keys]
      exact ⟨fun z => z.elim q h.1, pt_nodup k x h.2⟩
end
/-- pairs of a dict as they stand for typed ones -/
def DK {κ α : Type} [KeyT κ] (r : Rep α) (F : Hp) (ks : List (Key × V)) (kvs : List (κ × α)) : Prop := A2 (fun p q => p.1 = KeyT.k q.1 ∧ r F p.2 q.2 ∧ KeyT.rk (kV p.1) q.1) ks kvs ∧ (kvs.map (·.1)).Nodup
section
variable {κ α : Type} [DecidableEq κ] [t : KeyT κ] {r : Rep α} {F : Hp}
theorem DK.sub [m : Mono r] {F' : Hp} (e : Sub F F') {ks : List (Key × V)} {kvs : List (κ × α)} (h : DK r F ks kvs) : DK r F' ks kvs := ⟨h.1.imp fun _ _ q => ⟨q.1, m.sub e q.2.1, q.2.2⟩, h.2⟩
theorem DK.up [m : Mono r] {F' : Hp} (e : Same F F') {ks : List (Key × V)} {kvs : List (κ × α)} (h : DK r F ks kvs) : DK r F' ks kvs := h.sub (Same.sub e)
theorem DK.nil : DK r F [] ([] : List (κ × α)) := ⟨.nil, .nil⟩
theorem DK.len {ks : List (Key × V)} {kvs : List (κ × α)} (h : DK r F ks kvs) : ks.length = kvs.length := h.1.len
theorem DK.look {ks : List (Key × V)} {kvs : List (κ × α)} (h : DK r F ks kvs) (x : κ) : match lk x kvs with
    | none => valV ks (t.k x) = none
    | some y => ∃ v, valV ks (t.k x) = some v ∧ r F v y := by
  obtain ⟨h, nd⟩ := h
  clear nd
  induction h with
  | nil => exact rfl
  | @cons p p' _ _ q _ ih =>
    unfold lk
    by_cases e : p'.1 = x
    · rw [if_pos e]
      exact ⟨_, valV_pos (by rw [q.1, e]), q.2.1⟩
    · rw [if_neg e, valV_neg (fun z => e (t.inj _ _ (q.1.symm.trans z)))]
      exact ih
theorem DK.has {ks : List (Key × V)} {kvs : List (κ × α)} (h : DK r F ks kvs) (x : κ) : (valV ks (t.k x)).isSome = (lk x kvs).isSome := by
  have := h.look x
  cases q : lk x kvs with
  | none => rw [q] at this; rw [this]; rfl
  | some y => rw [q] at this; obtain ⟨v, e, _⟩ := this; rw [e]; rfl
theorem putK_cons {p : Key × V} {ks : List (Key × V)} {k : Key} {v : V} (h : ∀ q ∈ ks, q.1 ≠ p.1) : putK (p :: ks) k v = if p.1 = k then (p.1, v) :: ks else p :: putK ks k v := by
  unfold putK
  by_cases e : p.1 = k
  · rw [if_pos e, List.any_cons, decide_eq_true e, Bool.true_or, if_pos rfl, List.map_cons, if_pos e]
    congr 1
    refine (List.map_congr_left fun q hq => ?_).trans (List.map_id _)
    rw [if_neg (fun z => h q hq (z.trans e.symm))]; rfl
  · rw [if_neg e, List.any_cons, decide_eq_false e, Bool.false_or]
    split
    · rw [List.map_cons, if_neg e]
    · rw [List.cons_append]
theorem DK.put {ks : List (Key × V)} {kvs : List (κ × α)} {x : κ} {y : α} {v : V} (h : DK r F ks kvs) (hr : r F v y) (hk : t.rk (kV (t.k x)) x) : DK r F (putK ks (t.k x) v) (pt x y kvs) := by
  refine ⟨?_, pt_nodup x y h.2⟩
  obtain ⟨h, nd⟩ := h
  induction h with
  | nil => exact .cons ⟨rfl, hr, hk⟩ .nil
  | @cons p p' _ _ q tl ih =>
    rw [List.map_cons, List.nodup_cons] at nd
    rw [putK_cons (fun q2 h2 z => by
      obtain ⟨i, hi⟩ := List.getElem?_of_mem h2
      obtain ⟨b, hb, hk⟩ := tl.getL hi
      have : b.1 = p'.1 := t.inj _ _ (hk.1.symm.trans (z.trans q.1))
      exact nd.1 (List.mem_map.mpr ⟨b, List.mem_of_getElem? hb, this⟩))]
    unfold pt
    by_cases e : p'.1 = x
    · rw [if_pos e, if_pos (by rw [q.1, e])]
      exact .cons ⟨q.1, hr, q.2.2⟩ tl
    · rw [if_neg e, if_neg (fun z => e (t.inj _ _ (q.1.symm.trans z)))]
      exact .cons q (ih nd.2)
end
/-- a dict that stands for good -/
def dR {κ α : Type} [KeyT κ] (r : Rep α) : Rep (List (κ × α)) := fun F v kvs => ∃ a o ks, v = .ref a ∧ F a = some o ∧ DictO o (.dK ks) ∧ DK r F ks kvs
instance {κ α : Type} [KeyT κ] {r : Rep α} [m : Mono r] : Mono (dR (κ := κ) r) := ⟨fun e ⟨a, o, ks, h1, h2, h3, h4⟩ =>
  let ⟨o', h5, h6⟩ := e.dic h2 h3; ⟨a, o', ks, h1, h5, h6, ⟨h4.1.imp fun _ _ q => ⟨q.1, m.sub e q.2.1, q.2.2⟩, h4.2⟩⟩⟩
/-- a dict to be read: for good or one's own -/
def rdD (M : Hp) {κ α : Type} [KeyT κ] (r : Rep α) : Rep (List (κ × α)) := fun F v kvs => ∃ a ks, v = .ref a ∧ ((∃ o, F a = some o ∧ DictO o (.dK ks)) ∨ M a = some (.dK ks)) ∧ DK r F ks kvs
instance {M : Hp} {κ α : Type} [KeyT κ] {r : Rep α} [m : Mono r] : Mono (rdD M (κ := κ) r) := ⟨fun e ⟨a, ks, h1, h2, h4⟩ =>
  ⟨a, ks, h1, h2.imp (fun ⟨o, h2, h3⟩ => let ⟨o', h5, h6⟩ := e.dic h2 h3; ⟨o', h5, h6⟩) id, ⟨h4.1.imp fun _ _ q => ⟨q.1, m.sub e q.2.1, q.2.2⟩, h4.2⟩⟩⟩
theorem DictO.rd {H : Hp} {a : Addr} {o : HO} {ks : List (Key × V)} (h : H a = some o) (d : DictO o (.dK ks)) : Rd H a (.dK ks) := by
  cases d with
  | k => exact .inl h
  | kf ob => exact .inr ⟨ob, h⟩
theorem rdD.rd {M F H : Hp} {a : Addr} {ks : List (Key × V)} (w : Own F M H) (h : (∃ o, F a = some o ∧ DictO o (.dK ks)) ∨ M a = some (.dK ks)) : Rd H a (.dK ks) := by
  rcases h with ⟨o, h, d⟩ | h
  · exact DictO.rd (w.f _ _ h) d
  · exact .inl (w.m _ _ h)
section
variable {X : Cx} {σ : L2.St} {F M H : Hp} {a b c e : Expr} {pos p p2 : Pos} {κ α β : Type} [DecidableEq κ] [t : KeyT κ] {r : Rep α} {n : Str} {rest : List Stmt} {D : Ends}
theorem Ev.dd {kvs : List (κ × α)} (h : EvF X e σ F M (dR r) kvs) : EvF X e σ F M (rdD M r) kvs := h.imp fun _ _ ⟨a, o, ks, h1, h2, h3, h4⟩ => ⟨a, ks, h1, .inl ⟨o, h2, h3⟩, h4⟩
theorem ev_varD (i : Nat) {kvs : List (κ × α)} {l : Addr} {ks : List (Key × V)} {n : Str} [m : Mono r] (hs : σ[i]? = some (some (.ref l))) (hM : M l = some (.dK ks)) (hr : DK r F ks kvs) (hN : X.N[i]? = some n := by rfl)
    (hv : Vis X.env.scope n := by first | exact Or.inl rfl | exact Or.inr (Or.inl rfl) | exact Or.inr (Or.inr rfl)) (hd : (n == ("__debug__" : Str)) = false := by decide) (hcd : (n == ("__classdict__" : Str)) = false := by decide) :
    EvF X (.Name n pos) σ F M (rdD M r) kvs := fun F1 H1 s w Q q => we_of (pe_var hN hv hd hcd) ⟨_, hs, q F1 H1 _ (Same.refl _) w ⟨l, ks, rfl, .inr hM, hr.up s⟩⟩
theorem bx_inD {x : κ} {kvs : List (κ × α)} (hu : X.A.units + 64 < cLine) (ha : EvF X a σ F M t.rep x) (hb : EvF X b σ F M (rdD M r) kvs) (hm : behindInMarks .In b = false := by rfl) : Bx X (.Compare a [.In] [b] pos) σ F M (lk x kvs).isSome :=
  bx_c (fun F1 H1 s w Q q => wc_of (pc_din (by omega) (pe_w a) (pe_w b)) (ha F1 H1 s w _ fun F2 H2 v s2 w2 hv => hb F2 H2 (s.trans s2) w2 _ fun F3 H3 u s3 w3 ⟨l, ks, e, hl, hk⟩ => by
    refine ⟨l, valV ks (t.k x), e, ?_, ?_⟩
    · rw [t.v hv]
      exact .inl ⟨ks, _, rdD.rd w3 hl, rfl, rfl⟩
    · rw [hk.has x]; exact q F3 H3 (s2.trans s3) w3)) hm
theorem bx_niD {x : κ} {kvs : List (κ × α)} (hu : X.A.units + 64 < cLine) (ha : EvF X a σ F M t.rep x) (hb : EvF X b σ F M (rdD M r) kvs) (hm : behindInMarks .NotIn b = false := by rfl) : Bx X (.Compare a [.NotIn] [b] pos) σ F M (!(lk x kvs).isSome) :=
  bx_c (fun F1 H1 s w Q q => wc_of (pc_dnotin (by omega) (pe_w a) (pe_w b)) (ha F1 H1 s w _ fun F2 H2 v s2 w2 hv => hb F2 H2 (s.trans s2) w2 _ fun F3 H3 u s3 w3 ⟨l, ks, e, hl, hk⟩ => by
    refine ⟨l, valV ks (t.k x), e, ?_, ?_⟩
    · rw [t.v hv]
      exact .inl ⟨ks, _, rdD.rd w3 hl, rfl, rfl⟩
    · rw [hk.has x]; exact q F3 H3 (s2.trans s3) w3)) hm
/-- d[x] -/
theorem ev_dget {x : κ} {y : α} {kvs : List (κ × α)} [m : Mono r] (hu : X.A.units + 64 < cLine) (ha : EvF X a σ F M (rdD M r) kvs) (hb : EvF X b σ F M t.rep x) (h : lk x kvs = some y) (hs : NoSl b := by exact fun _ _ => rfl) : EvF X (.Subscript a b pos) σ F M r y :=
  fun F1 H1 s w Q q => we_of (pe_dget (by omega) (pe_w a) (pe_w b) hs) (ha F1 H1 s w _ fun F2 H2 v s2 w2 ⟨l, ks, e, hl, hk⟩ => hb F2 H2 (s.trans s2) w2 _ fun F3 H3 u s3 w3 hu => by
    have := (hk.up s3).look x
    rw [h] at this
    obtain ⟨z, hz, hr⟩ := this
    refine ⟨l, z, e, ?_, q F3 H3 z (s2.trans s3) w3 hr⟩
    rw [t.v hu, ← hz]
    exact .inl ⟨ks, _, rdD.rd w3 (hl.imp (fun ⟨o, h1, h2⟩ => ⟨o, s3 _ _ h1, h2⟩) id), rfl, rfl⟩)
/-- d.get(x, z) -/
theorem ev_dget2 {f : Expr} {x : κ} {z : α} {kvs : List (κ × α)} {apos : Pos} [m : Mono r] (hu : X.A.units + 64 < cLine) (ha : EvF X a σ F M (rdD M r) kvs) (hb : EvF X b σ F M t.rep x) (hc : EvF X f σ F M r z) (hm : M2 X a "get" apos b f pos := by exact ⟨rfl, rfl, rfl, rfl⟩) :
    EvF X (.Call (.Attribute a "get" apos) [b, f] [] pos) σ F M r ((lk x kvs).getD z) :=
  fun F1 H1 s w Q q => we_of (pe_dget2 (by omega) (pe_w a) (pe_w b) (pe_w f) hm) (ha F1 H1 s w _ fun F2 H2 v s2 w2 ⟨l, ks, e, hl, hk⟩ => ⟨l, e, .inl ⟨ks, rdD.rd w2 hl⟩, hb F2 H2 (s.trans s2) w2 _ fun F3 H3 u s3 w3 hu => hc F3 H3 ((s.trans s2).trans s3) w3 _ fun F4 H4 u2 s4 w4 hz => by
    refine ⟨valV ks (t.k x), ?_, ?_⟩
    · rw [t.v hu]
      exact .inl ⟨ks, _, rdD.rd w4 (hl.imp (fun ⟨o, h1, h2⟩ => ⟨o, s4 _ _ (s3 _ _ h1), h2⟩) id), rfl, rfl⟩
    · have := (hk.up (s3.trans s4)).look x
      cases h : lk x kvs with
      | none => rw [h] at this; rw [this]; exact q F4 H4 _ ((s2.trans s3).trans s4) w4 (by rw [h]; exact hz)
      | some y => rw [h] at this; obtain ⟨z', e1, hr⟩ := this; rw [e1]; exact q F4 H4 _ ((s2.trans s3).trans s4) w4 (by rw [h]; exact hr)⟩)
/-- d.get(x) -/
theorem ev_dget1 {x : κ} {kvs : List (κ × α)} {apos : Pos} [m : Mono r] (hu : X.A.units + 64 < cLine) (ha : EvF X a σ F M (rdD M r) kvs) (hb : EvF X b σ F M t.rep x) (hm : M1 X a "get" apos b pos := by exact ⟨rfl, rfl, rfl, rfl⟩) :
    EvF X (.Call (.Attribute a "get" apos) [b] [] pos) σ F M (oR r) (lk x kvs) :=
  fun F1 H1 s w Q q => we_of (pe_dget1 (by omega) (pe_w a) (pe_w b) hm) (ha F1 H1 s w _ fun F2 H2 v s2 w2 ⟨l, ks, e, hl, hk⟩ => ⟨l, e, .inl ⟨ks, rdD.rd w2 hl⟩, hb F2 H2 (s.trans s2) w2 _ fun F3 H3 u s3 w3 hu => by
    refine ⟨valV ks (t.k x), ?_, ?_⟩
    · rw [t.v hu]
      exact .inl ⟨ks, _, rdD.rd w3 (hl.imp (fun ⟨o, h1, h2⟩ => ⟨o, s3 _ _ h1, h2⟩) id), rfl, rfl⟩
    · have := (hk.up s3).look x
      refine q F3 H3 _ (s2.trans s3) w3 ?_
      cases h : lk x kvs with
      | none => rw [h] at this; rw [this]; exact rfl
      | some y => rw [h] at this; obtain ⟨z', e1, hr⟩ := this; rw [e1]; exact hr⟩)
/-- x = {} -/
theorem ss_setD (i : Nat) (w : Own F M H) (k : ∀ H2 l, M l = none → Own F (upd M l (.dK [])) H2 → WSs X rest D (σ.set i (some (.ref l))) H2)
    (hN : X.N.Nodup) (hi : X.N[i]? = some n := by rfl) (hx : Loc X.env.scope n := by first | exact Or.inl rfl | exact Or.inr rfl) (hs : swapsWith (.Dict [] [] p2) (some (.Name n p)) pos.line X.env = pure false := by rfl) (hf : X.fn n = true ∨ X.env.scope.names.lookup n = some .local := by first | exact .inl rfl | exact .inr rfl) :
    WSs X (.Assign [.Name n p] (.Dict [] [] p2) pos :: rest) D σ H :=
  wss_cons (ws_of (ps_set hN hi hx pe_dnewK hs hf) fun l hl => k _ l (w.noM hl) (w.newM hl))
/-- d[x] = e, d a dict of one's own -/
theorem ss_dput {ix : Expr} {l : Addr} {ks : List (Key × V)} {kvs : List (κ × α)} {x : κ} {y : α} (i : Nat) {q1 q2 : Pos} [m : Mono r] (hu : X.A.units + 64 < cLine) (hs : σ[i]? = some (some (.ref l))) (hM : M l = some (.dK ks)) (hA : DK r F ks kvs) (he : EvF X e σ F M r y) (hix : EvF X ix σ F M t.rep x) (w : Own F M H) (hl : kvs.length < 1000000)
    (kk : ∀ F2 M2 H2 ks', Same F F2 → M2 = upd M l (.dK ks') → Own F2 M2 H2 → DK r F2 ks' (pt x y kvs) → WSs X rest D σ H2) (hN : X.N[i]? = some n := by rfl)
    (hv : Vis X.env.scope n := by first | exact Or.inl rfl | exact Or.inr (Or.inl rfl) | exact Or.inr (Or.inr rfl)) (hd : (n == ("__debug__" : Str)) = false := by decide) (hcd : (n == ("__classdict__" : Str)) = false := by decide)
    (hsw : swapsWith e (some (.Subscript (.Name n q1) ix q2)) pos.line X.env = pure false := by rfl) :
    WSs X (.Assign [.Subscript (.Name n q1) ix q2] e pos :: rest) D σ H :=
  wss_cons (ws_of (ps_dput (by omega) (pe_var hN hv hd hcd) (pe_w ix) (pe_w e) hsw) (he F H (Same.refl _) w _ fun F2 H2 v s2 w2 hv => ⟨_, hs, hix F2 H2 s2 w2 _ fun F3 H3 u s3 w3 hu => by
    have hz : ks.length < sizeLine := Nat.lt_of_lt_of_le (show ks.length < 1000000 by rw [hA.len]; exact hl) (by decide)
    refine ⟨l, _, rfl, ?_, kk F3 _ _ _ (s2.trans s3) rfl (w3.put hM) ((hA.up (s2.trans s3)).put (Mono.mono s3 hv) (t.v hu ▸ hu))⟩
    rw [t.v hu]
    exact DPut.k (w3.m _ _ hM) hz⟩))
/-! walks over a dict that stands for good -/
theorem yields_keys {d : Addr} {o : Obj} {ks : List (Key × V)} {kvs : List (κ × α)} (hF : F d = some (.frz o (.dK ks))) (h : DK r F ks kvs) : Yields F (Itk d o ks) t.rep (kvs.map (·.1)) := fun i F3 M3 H3 s3 w3 =>
  ⟨fun hi => ⟨w3.f _ _ (s3 _ _ hF), by rw [h.len]; simpa using hi⟩, fun x hx => by
    rw [List.getElem?_map] at hx
    cases e : kvs[i]? with
    | none => rw [e] at hx; cases hx
    | some q =>
      rw [e] at hx
      cases hx
      obtain ⟨p, hp, hk⟩ := h.1.get e
      refine ⟨⟨w3.f _ _ (s3 _ _ hF), (List.getElem?_eq_some_iff.mp hp).1⟩, fun v H' hy => ?_⟩
      obtain ⟨rfl, k, v', h1, rfl⟩ := hy
      rw [hp] at h1
      cases h1
      exact ⟨F3, Same.refl _, w3, hk.2.2⟩⟩
theorem yields_items [m : Mono r] {d : Addr} {o : Obj} {ks : List (Key × V)} {kvs : List (κ × α)} (hF : F d = some (.frz o (.dK ks))) (h : DK r F ks kvs) : Yields F (Iti d o ks) (t2R t.rep r) kvs := fun i F3 M3 H3 s3 w3 =>
  ⟨fun hi => ⟨w3.f _ _ (s3 _ _ hF), by rw [h.len]; exact hi⟩, fun x hx => by
    obtain ⟨p, hp, hk⟩ := h.1.get hx
    refine ⟨⟨w3.f _ _ (s3 _ _ hF), (List.getElem?_eq_some_iff.mp hp).1⟩, fun v H' hy => ?_⟩
    obtain ⟨T, k, v', h1, rfl, hT, rfl⟩ := hy
    rw [hp] at h1
    cases h1
    exact ⟨_, same_new (w3.noF hT), w3.newF hT, T, _, _, rfl, upd_same, hk.2.2, Mono.mono (s3.trans (same_new (w3.noF hT))) hk.2.1⟩⟩
theorem sub_lock {d : Addr} {o : Obj} {ks : List (Key × V)} (h : F d = some (.dK ks)) : Sub F (upd F d (.frz o (.dK ks))) := fun a u e => by
  by_cases q : a = d
  · subst q; rw [h] at e; cases e; exact .inr ⟨_, _, .k _, upd_same, .kf _ _⟩
  · exact .inl (by rw [upd_ne q]; exact e)
theorem sub_unlock {d : Addr} {o : Obj} {ks : List (Key × V)} (h : F d = some (.frz o (.dK ks))) : Sub F (upd F d (.dK ks)) := fun a u e => by
  by_cases q : a = d
  · subst q; rw [h] at e; cases e; exact .inr ⟨_, _, .kf _ _, upd_same, .k _⟩
  · exact .inl (by rw [upd_ne q]; exact e)
theorem Own.reF {d : Addr} {o u : HO} (w : Own F M H) (h : F d = some o) : Own (upd F d u) M (upd H d u) :=
  have hM : M d = none := by
    cases q : M d with
    | none => rfl
    | some x => have := w.d d x q; rw [h] at this; cases this
  ⟨same_upd w.f, same_in w.m hM, fun a x e => by
    have ne : a ≠ d := fun q => by subst q; rw [hM] at e; cases e
    rw [upd_ne ne]; exact w.d a x e, w.t⟩
theorem same_reF {F' : Hp} {d : Addr} {o u : HO} (h : F d = some o) (s : Same (upd F d u) F') : Same F (upd F' d o) := fun a x e => by
  by_cases q : a = d
  · subst q; rw [h] at e; cases e; exact upd_same
  · rw [upd_ne q]; exact s a x (by rw [upd_ne q]; exact e)
/-- .. in a comprehension: it the walked thing (the dict in slot j, or its items()), J its turns -/
theorem en_lcD_core {elt tg iter : Expr} {ifs : List Expr} {scope : Scope} (own : List (Str × Nat)) {g : TG} {v : V} {kvs : List (κ × α)} {δ γ : Type} {s : Rep β} {r2 : Rep γ} {xs : List γ} [ms : Mono s] [mr : Mono r] (pr : γ → Bool) (f : γ → β)
    (hd : dR r F v kvs)
    (hi : ∀ F1, Sub F F1 → ∀ d o ks, v = .ref d → F1 d = some (.frz o (.dK ks)) → DK r F1 ks kvs → EvI X tg iter σ F1 M r2 xs)
    (hg : ∀ (s : Shared) (H : Hp) (C : Addr) (cl : List (Str × Addr)) (fp : List Addr), PG (X.blk s H scope (compEnvC scope cl C X.env) fp) tg g)
    (ht : ∀ x v F1 M1 H1, x ∈ xs → Sub F F1 → Same M M1 → Own F1 M1 H1 → r2 F1 v x → ∀ R : L2.St → Hp → Prop, (∀ σ2, wipe σ2 (own.map (·.2)) = wipe σ (own.map (·.2)) → (∀ Y, Blk X scope Y → EvTs Y ifs σ2 F1 M1 (pr x)) → (pr x = true → ∀ Y, Blk X scope Y → EvF Y elt σ2 F1 M1 s (f x)) → R σ2 H1) → g v (wipe σ (own.map (·.2))) H1 R)
    (hl : xs.length < 1000000) (hN : X.N.Nodup) (ok : BlkOk X.N X.env.scope scope own) (hc : X.calm = true := by rfl) (hs : ∀ x, foldedSetIterable iter X.env x = pure x := by intro _; rfl) :
    EvN X (.ListComp elt [⟨tg, iter, ifs, 0⟩] scope pos) σ F M s ((xs.filter pr).map f) := by
  intro F1 H1 s1 w1 Q q
  obtain ⟨d, o, ks, rfl, h1, h2, h3⟩ := hd
  have h1' := s1 _ _ h1
  have pl : PE X (.ListComp elt [⟨tg, iter, ifs, 0⟩] scope pos) _ := pe_lc (g := g) (tt := wTs X scope ifs) (te := wE X scope elt) hc hN (pi_w tg iter) ok hg (fun s' H' C cl fp => ⟨fun pins s2 σ2 H2 Q2 I h => h _ ⟨s', H', C, cl, fp, rfl⟩ pins s2 I⟩) (fun s' H' C cl fp => ⟨fun pins s2 σ2 H2 Q2 I h => h _ ⟨s', H', C, cl, fp, rfl⟩ pins s2 I⟩) hs
  cases h2 with
  | kf ob => exact we_of pl (lc_run (Sub.refl F) own pr f (hi F (Sub.refl F) d ob ks rfl h1 h3) ht hl s1 w1 q)
  | k =>
    refine we_of (pe_lock pl) ⟨d, _, w1.f _ _ h1', trivial, fun ob => ?_⟩
    have wl : Own (upd F1 d (.frz ob (.dK ks))) M (upd H1 d (.frz ob (.dK ks))) := w1.reF h1'
    have sb : Sub F (upd F1 d (.frz ob (.dK ks))) := (Same.sub s1).trans (sub_lock h1')
    refine lc_run sb own pr f (hi _ sb d ob ks rfl upd_same (h3.sub sb)) ht hl (Same.refl _) wl fun F2 H2 l vs s2 w2 n1 n2 hh hA => ?_
    have hF2 : F2 d = some (.frz ob (.dK ks)) := s2 _ _ upd_same
    have ne : l ≠ d := fun z => by subst z; rw [hF2] at n1; cases n1
    refine ⟨w2.f _ _ hF2, q (upd F2 d (.dK ks)) _ l vs (same_reF h1' s2) (w2.reF hF2) (by rw [upd_ne ne]; exact n1) n2 (by rw [upd_ne ne]; exact hh) (hA.sub (sub_unlock hF2))⟩
/-- [.. for x in d ..]: d in slot j, x in slot i -/
theorem en_lcDk (i j : Nat) {elt : Expr} {ifs : List Expr} {scope : Scope} {dn : Str} {v : V} {kvs : List (κ × α)} {s : Rep β} [ms : Mono s] [mr : Mono r] (pr : κ → Bool) (f : κ → β) (hσ : σ[j]? = some (some v)) (hd : dR r F v kvs)
    (ht : ∀ x u F1 M1, x ∈ kvs.map (·.1) → Sub F F1 → Same M M1 → t.rep F1 u x → ∀ Y, Blk X scope Y → EvTs Y ifs (((wipe σ [i])).set i (some u)) F1 M1 (pr x) ∧ (pr x = true → EvF Y elt ((wipe σ [i]).set i (some u)) F1 M1 s (f x)))
    (hl : kvs.length < 1000000) (hN : X.N.Nodup) (hb : blkC X.N X.env.scope scope [(n, i)] = true := by decide +kernel) (hc : X.calm = true := by rfl)
    (hg : ∀ (s : Shared) (H : Hp) (C : Addr) (cl : List (Str × Addr)) (fp : List Addr), PG (X.blk s H scope (compEnvC scope cl C X.env) fp) (.Name n p) (gName i) := by exact fun _ _ _ _ _ => pg_name (by assumption) rfl (Or.inl rfl))
    (hs : ∀ x, foldedSetIterable (.Name dn p2) X.env x = pure x := by intro _; rfl) (hNj : X.N[j]? = some dn := by rfl)
    (hv : Vis X.env.scope dn := by first | exact Or.inl rfl | exact Or.inr (Or.inl rfl) | exact Or.inr (Or.inr rfl)) (hdb : (dn == ("__debug__" : Str)) = false := by decide) (hcd : (dn == ("__classdict__" : Str)) = false := by decide) :
    EvN X (.ListComp elt [⟨.Name n p, .Name dn p2, ifs, 0⟩] scope pos) σ F M s (((kvs.map (·.1)).filter pr).map f) :=
  en_lcD_core (δ := Nat) [(n, i)] (g := gName i) pr f hd (fun F1 sb d o ks ev hF hk F2 H2 s2 w2 R q => by
      subst ev
      exact wi_of (pi_keys (pe_var hNj hv hdb hcd)) ⟨_, hσ, d, o, rfl, .inl ⟨ks, w2.f _ _ (s2 _ _ hF), q F2 H2 _ (Same.refl _) w2 (yields_keys (s2 _ _ hF) (hk.up s2))⟩⟩) hg
    (fun x u F1 M1 H1 hx s1 s2 w hr R k => k _ (by
      show (List.set (List.set (List.set σ i none) i (some u)) i none) = List.set σ i none
      rw [List.set_set, List.set_set]) (fun Y hY => (ht x u F1 M1 hx s1 s2 hr Y hY).1) (fun hp Y hY => (ht x u F1 M1 hx s1 s2 hr Y hY).2 hp)) (by simpa using hl) hN (blkOk_by hb) hc hs
end
end Y

/-! ### max, min of a list, with and without default=; sum; enumerate; zip; xs[::-1] -/
namespace Y
open PySem PySem.Spec PyProof.Rows L2
def mxD (d : Int) : List Int → Int
  | [] => d
  | x :: t => t.foldl max x
def mnD (d : Int) : List Int → Int
  | [] => d
  | x :: t => t.foldl min x
theorem foldl_max_ge (t : List Int) (x : Int) : x ≤ t.foldl max x ∧ (∀ y ∈ t, y ≤ t.foldl max x) ∧ (t.foldl max x = x ∨ t.foldl max x ∈ t) := by
  induction t generalizing x with
  | nil => exact ⟨Int.le_refl _, fun _ h => by simp at h, .inl rfl⟩
  | cons y t ih =>
    rw [List.foldl_cons]
    obtain ⟨h1, h2, h3⟩ := ih (max x y)
    refine ⟨by omega, fun z hz => ?_, ?_⟩
    · rcases List.mem_cons.mp hz with rfl | hz
      · omega
      · exact h2 z hz
    · rcases h3 with h3 | h3
      · rw [h3]
        rcases Int.le_total x y with q | q
        · rw [Int.max_eq_right q]; exact .inr (by simp)
        · rw [Int.max_eq_left q]; exact .inl rfl
      · exact .inr (List.mem_cons_of_mem _ h3)
theorem foldl_min_le (t : List Int) (x : Int) : t.foldl min x ≤ x ∧ (∀ y ∈ t, t.foldl min x ≤ y) ∧ (t.foldl min x = x ∨ t.foldl min x ∈ t) := by
  induction t generalizing x with
  | nil => exact ⟨Int.le_refl _, fun _ h => by simp at h, .inl rfl⟩
  | cons y t ih =>
    rw [List.foldl_cons]
    obtain ⟨h1, h2, h3⟩ := ih (min x y)
    refine ⟨by omega, fun z hz => ?_, ?_⟩
    · rcases List.mem_cons.mp hz with rfl | hz
      · omega
      · exact h2 z hz
    · rcases h3 with h3 | h3
      · rw [h3]
        rcases Int.le_total x y with q | q
        · rw [Int.min_eq_left q]; exact .inl rfl
        · rw [Int.min_eq_right q]; exact .inr (by simp)
      · exact .inr (List.mem_cons_of_mem _ h3)
theorem mxD_ge {d : Int} {xs : List Int} {y : Int} (h : y ∈ xs) : y ≤ mxD d xs := by
  cases xs with
  | nil => simp at h
  | cons x t =>
    obtain ⟨h1, h2, _⟩ := foldl_max_ge t x
    rcases List.mem_cons.mp h with rfl | h
    · exact h1
    · exact h2 y h
theorem mxD_mem {d : Int} {xs : List Int} (h : xs ≠ []) : mxD d xs ∈ xs := by
  cases xs with
  | nil => exact absurd rfl h
  | cons x t =>
    obtain ⟨_, _, h3⟩ := foldl_max_ge t x
    rcases h3 with h3 | h3
    · show t.foldl max x ∈ _
      rw [h3]; simp
    · exact List.mem_cons_of_mem _ h3
theorem mnD_le {d : Int} {xs : List Int} {y : Int} (h : y ∈ xs) : mnD d xs ≤ y := by
  cases xs with
  | nil => simp at h
  | cons x t =>
    obtain ⟨h1, h2, _⟩ := foldl_min_le t x
    rcases List.mem_cons.mp h with rfl | h
    · exact h1
    · exact h2 y h
theorem mnD_mem {d : Int} {xs : List Int} (h : xs ≠ []) : mnD d xs ∈ xs := by
  cases xs with
  | nil => exact absurd rfl h
  | cons x t =>
    obtain ⟨_, _, h3⟩ := foldl_min_le t x
    rcases h3 with h3 | h3
    · show t.foldl min x ∈ _
      rw [h3]; simp
    · exact List.mem_cons_of_mem _ h3
theorem holdAll_ints {h : Heap} : ∀ {vs : List Value} {ns : List Int}, IntsAre vs ns → PySem.W.HoldAll h vs ns
  | _, _, .nil => ⟨_, ReadsAll.nil⟩
  | _, _, .cons n t r => by
    obtain ⟨as, hr⟩ := holdAll_ints (h := h) r
    exact ⟨_, ReadsAll.cons (Reads.int n t) hr⟩
theorem maxOf_int (x : Int) (xs : List Int) : PySem.W.maxOf x xs = xs.foldl max x := by
  unfold PySem.W.maxOf
  congr 1
  funext a y
  show (if decide (a < y) = true then y else a) = max a y
  by_cases h : a < y
  · rw [decide_eq_true h, if_pos rfl, Int.max_eq_right (by omega)]
  · rw [decide_eq_false h, if_neg (by simp), Int.max_eq_left (by omega)]
theorem minOf_int (x : Int) (xs : List Int) : PySem.W.minOf x xs = xs.foldl min x := by
  unfold PySem.W.minOf
  congr 1
  funext a y
  show (if decide (y < a) = true then y else a) = min a y
  by_cases h : y < a
  · rw [decide_eq_true h, if_pos rfl, Int.min_eq_right (by omega)]
  · rw [decide_eq_false h, if_neg (by simp), Int.min_eq_left (by omega)]
def rMaxD (K : PySem.W.Frag) : List V → List V → Hp → VK → Prop := fun vs zs H Q => ∃ (a : Addr) (ns : List Int) (d : Int), vs = [V.ref a] ∧ zs = [.int d] ∧ SqL K H a (ns.map V.int) ∧ Q (.int (mxD d ns)) H
def rMinD (K : PySem.W.Frag) : List V → List V → Hp → VK → Prop := fun vs zs H Q => ∃ (a : Addr) (ns : List Int) (d : Int), vs = [V.ref a] ∧ zs = [.int d] ∧ SqL K H a (ns.map V.int) ∧ Q (.int (mnD d ns)) H
section
variable {X : Cx}
theorem cr_maxDf (hc : X.calm = true) (hu : X.A.units + 64 < cLine) : CallRK X (.builtin "max") [("default" : Str)] (rMaxD X.K) := by
  intro pins s σ H xs zs us ws Q I r rz h
  obtain ⟨a, ns, d, rfl, rfl, hs, q⟩ := h
  obtain ⟨its, rv, hl, _⟩ := I.list hs
  obtain ⟨u, rfl, t, rfl⟩ := vals1 rz
  rw [Vals.ref1 r]
  refine PySem.W.max_list_datum_default (I.ok.hd hc) hl.isList (by simpa using holdAll_ints rv.ints) (by show X.A.units + 1 + 0 < _; omega) (fun e h' tk hk => ?_) fun y ys i v h' tk e hi hr hk => ?_
  · subst e
    exact ⟨.int d, H, I.kept hk, ⟨_, rfl⟩, q⟩
  · subst e
    obtain ⟨as, hr⟩ := hr
    rw [maxOf_int] at hr
    cases hr
    exact ⟨.int _, H, I.kept hk, ⟨_, rfl⟩, q⟩
theorem cr_minDf (hc : X.calm = true) (hu : X.A.units + 64 < cLine) : CallRK X (.builtin "min") [("default" : Str)] (rMinD X.K) := by
  intro pins s σ H xs zs us ws Q I r rz h
  obtain ⟨a, ns, d, rfl, rfl, hs, q⟩ := h
  obtain ⟨its, rv, hl, _⟩ := I.list hs
  obtain ⟨u, rfl, t, rfl⟩ := vals1 rz
  rw [Vals.ref1 r]
  refine PySem.W.min_list_datum_default (I.ok.hd hc) hl.isList (by simpa using holdAll_ints rv.ints) (by show X.A.units + 1 + 0 < _; omega) (fun e h' tk hk => ?_) fun y ys i v h' tk e hi hr hk => ?_
  · subst e
    exact ⟨.int d, H, I.kept hk, ⟨_, rfl⟩, q⟩
  · subst e
    obtain ⟨as, hr⟩ := hr
    rw [minOf_int] at hr
    cases hr
    exact ⟨.int _, H, I.kept hk, ⟨_, rfl⟩, q⟩
variable {σ : L2.St} {F M H : Hp} {a b c e : Expr} {pos p p2 kpos : Pos} {α β γ : Type} {r : Rep α} {s : Rep β}
theorem ev_maxD {xs : List Int} {d : Int} (hc : X.calm = true) (hu : X.A.units + 64 < cLine) (hm : X.mg "max" = none) (ha : EvF X a σ F M (rdR X.K M iR) xs) (hb : EvF X b σ F M iR d) (hg : Gl X "max" := by rfl)
    (he0 : starEach [a] X.env = (false, eval a X.env) :: starEach [] X.env := by rfl)
    (he : backTo pos (starEach [a] X.env) = (false, eval a X.env) :: backTo pos (starEach [] X.env) := by rfl) (hpl : (backTo pos (starEach [a] X.env)).any (·.1) = false := by rfl)
    (hall : (backToKw pos (keywordEach [⟨some "default", b, kpos⟩] X.env)).all (·.1.isSome) = true := by rfl) (hnone : (backToKw pos (keywordEach [⟨some "default", b, kpos⟩] X.env)).any (·.1.isNone) = false := by rfl) (hks : (backToKw pos (keywordEach [⟨some "default", b, kpos⟩] X.env)).filterMap (·.1) = [("default" : Str)] := by rfl) :
    EvF X (.Call (.Name "max" p) [a] [⟨some "default", b, kpos⟩] pos) σ F M iR (mxD d xs) :=
  fun F1 H1 s w Q q => we_of (pe_callBK (cr_maxDf hc hu) hg hm (by decide +kernel) (pa_cons (pe_w a) pa_nil he0) (pk_cons (pe_w b) pk_nil) (by decide) (by decide) he hpl hall hnone hks) (ha F1 H1 s w _ fun F2 H2 v s2 w2 ⟨l, vs, e, hl, h2⟩ => hb F2 H2 (s.trans s2) w2 _ fun F3 H3 u s3 w3 hu' =>
    ⟨l, xs, d, by rw [e], by rw [show u = V.int d from hu'], by rw [← iR_map h2]; exact w3.sq (hl.imp (fun y => Same.sql s3 y) id), q F3 H3 _ (s2.trans s3) w3 rfl⟩)
theorem ev_minD {xs : List Int} {d : Int} (hc : X.calm = true) (hu : X.A.units + 64 < cLine) (hm : X.mg "min" = none) (ha : EvF X a σ F M (rdR X.K M iR) xs) (hb : EvF X b σ F M iR d) (hg : Gl X "min" := by rfl)
    (he0 : starEach [a] X.env = (false, eval a X.env) :: starEach [] X.env := by rfl)
    (he : backTo pos (starEach [a] X.env) = (false, eval a X.env) :: backTo pos (starEach [] X.env) := by rfl) (hpl : (backTo pos (starEach [a] X.env)).any (·.1) = false := by rfl)
    (hall : (backToKw pos (keywordEach [⟨some "default", b, kpos⟩] X.env)).all (·.1.isSome) = true := by rfl) (hnone : (backToKw pos (keywordEach [⟨some "default", b, kpos⟩] X.env)).any (·.1.isNone) = false := by rfl) (hks : (backToKw pos (keywordEach [⟨some "default", b, kpos⟩] X.env)).filterMap (·.1) = [("default" : Str)] := by rfl) :
    EvF X (.Call (.Name "min" p) [a] [⟨some "default", b, kpos⟩] pos) σ F M iR (mnD d xs) :=
  fun F1 H1 s w Q q => we_of (pe_callBK (cr_minDf hc hu) hg hm (by decide +kernel) (pa_cons (pe_w a) pa_nil he0) (pk_cons (pe_w b) pk_nil) (by decide) (by decide) he hpl hall hnone hks) (ha F1 H1 s w _ fun F2 H2 v s2 w2 ⟨l, vs, e, hl, h2⟩ => hb F2 H2 (s.trans s2) w2 _ fun F3 H3 u s3 w3 hu' =>
    ⟨l, xs, d, by rw [e], by rw [show u = V.int d from hu'], by rw [← iR_map h2]; exact w3.sq (hl.imp (fun y => Same.sql s3 y) id), q F3 H3 _ (s2.trans s3) w3 rfl⟩)
/-- of a list that isn't empty -/
theorem ev_maxL {xs : List Int} (hc : X.calm = true) (hm : X.mg "max" = none) (ha : EvF X a σ F M (rdR X.K M iR) xs) (hne : 0 < xs.length) (hg : Gl X "max" := by rfl) (he : starEach [a] X.env = (false, eval a X.env) :: starEach [] X.env := by rfl) (hpl : (backTo pos (starEach [] X.env)).any (·.1) = false := by rfl) :
    EvF X (.Call (.Name "max" p) [a] [] pos) σ F M iR (mxD 0 xs) :=
  fun F1 H1 s w Q q => we_of (pe_callB (cr_max hc) hg hm (by decide +kernel) (pa_cons (pe_w a) pa_nil he) (he := he) (hpl := hpl)) (ha F1 H1 s w _ fun F2 H2 v s2 w2 ⟨l, vs, e, hl, h2⟩ =>
    ⟨l, xs, by rw [e], by rw [← iR_map h2]; exact w2.sq hl, hne, fun m h1 h3 => q F2 H2 _ s2 w2 (by
      have a1 := mxD_ge (d := 0) h1
      have a2 := h3 _ (mxD_mem (d := 0) (xs := xs) (by intro z; subst z; simp at hne))
      show V.int m = V.int _
      congr 1; omega)⟩)
theorem ev_minL {xs : List Int} (hc : X.calm = true) (hm : X.mg "min" = none) (ha : EvF X a σ F M (rdR X.K M iR) xs) (hne : 0 < xs.length) (hg : Gl X "min" := by rfl) (he : starEach [a] X.env = (false, eval a X.env) :: starEach [] X.env := by rfl) (hpl : (backTo pos (starEach [] X.env)).any (·.1) = false := by rfl) :
    EvF X (.Call (.Name "min" p) [a] [] pos) σ F M iR (mnD 0 xs) :=
  fun F1 H1 s w Q q => we_of (pe_callB (cr_min hc) hg hm (by decide +kernel) (pa_cons (pe_w a) pa_nil he) (he := he) (hpl := hpl)) (ha F1 H1 s w _ fun F2 H2 v s2 w2 ⟨l, vs, e, hl, h2⟩ =>
    ⟨l, xs, by rw [e], by rw [← iR_map h2]; exact w2.sq hl, hne, fun m h1 h3 => q F2 H2 _ s2 w2 (by
      have a1 := mnD_le (d := 0) h1
      have a2 := h3 _ (mnD_mem (d := 0) (xs := xs) (by intro z; subst z; simp at hne))
      show V.int m = V.int _
      congr 1; omega)⟩)
theorem ev_sum {xs : List Int} (hc : X.calm = true) (hm : X.mg "sum" = none) (ha : EvF X a σ F M (rdR X.K M iR) xs) (hg : Gl X "sum" := by rfl) (he : starEach [a] X.env = (false, eval a X.env) :: starEach [] X.env := by rfl) (hpl : (backTo pos (starEach [] X.env)).any (·.1) = false := by rfl) :
    EvF X (.Call (.Name "sum" p) [a] [] pos) σ F M iR xs.sum :=
  fun F1 H1 s w Q q => we_of (pe_callB (cr_sum hc) hg hm (by decide +kernel) (pa_cons (pe_w a) pa_nil he) (he := he) (hpl := hpl)) (ha F1 H1 s w _ fun F2 H2 v s2 w2 ⟨l, vs, e, hl, h2⟩ =>
    ⟨l, xs, by rw [e], by rw [← iR_map h2]; exact w2.sq hl, q F2 H2 _ s2 w2 rfl⟩)
/-- xs[::-1] -/
theorem en_rev {xs : List α} {k : Nat} {q1 q2 q3 : Pos} [m : Mono r] (ha : EvF X a σ F M (rdR X.K M r) xs) : EvN X (.Subscript a (.Slice none none (some (.UnaryOp .USub (.Constant (.int 1) k q1) q2)) q3) pos) σ F M r xs.reverse :=
  fun F1 H1 s w Q q => we_of (pe_revL (pe_w a)) (ha F1 H1 s w _ fun F2 H2 v s2 w2 ⟨l, vs, e, hl, h2⟩ =>
    ⟨l, vs, e, w2.sq hl, fun p hp => q F2 _ p _ s2 ⟨same_in w2.f (w2.noF hp), same_in w2.m (w2.noM hp), w2.d, w2.t⟩ (w2.noF hp) (w2.noM hp) upd_same h2.rev⟩)
/-- enumerate(xs), a, b the target -/
def enumL {α : Type} (xs : List α) : List (Int × α) := xs.zipIdx.map fun p => ((p.2 : Int), p.1)
theorem enumL_get {α : Type} {xs : List α} {i : Nat} : (enumL xs)[i]? = xs[i]?.map fun x => ((i : Int), x) := by
  unfold enumL
  rw [List.getElem?_map, List.getElem?_zipIdx]
  cases xs[i]? <;> simp
theorem enumL_len {α : Type} {xs : List α} : (enumL xs).length = xs.length := by unfold enumL; simp
theorem ei_enum {elts : List Expr} {kk : Nat} {tpos : Pos} {xs : List α} [m : Mono r] (hm : X.mg "enumerate" = none) (ha : EvF X a σ F M (rsR X.K r) xs) (hg : Gl X "enumerate" := by rfl) (hs : starEach [a] X.env = [(false, eval a X.env)] := by rfl) (hs2 : starEach [a] X.env = (false, eval a X.env) :: starEach [] X.env := by rfl) :
    EvI X (.Tuple elts kk tpos) (.Call (.Name "enumerate" p) [a] [] pos) σ F M (t2R iR r) (enumL xs) :=
  fun F1 H1 s w R q => wi_of (pi_enum hg hm (pa_cons (pe_w a) pa_nil hs2) hs) (ha F1 H1 s w _ fun F2 H2 v s2 w2 ⟨l, vs, e, hl, h2⟩ => ⟨l, vs, by rw [e], Same.sql w2.f hl, q F2 H2 _ s2 w2 fun i F3 M3 H3 s3 w3 =>
    ⟨fun hi => ⟨vs, Same.sql w3.f (Same.sql s3 hl), by rw [h2.len]; rw [enumL_len] at hi; exact hi⟩, fun x hx => by
      rw [enumL_get] at hx
      cases e2 : xs[i]? with
      | none => rw [e2] at hx; cases hx
      | some y =>
        rw [e2] at hx
        cases hx
        obtain ⟨u, hu, hr⟩ := h2.get e2
        refine ⟨⟨vs, u, Same.sql w3.f (Same.sql s3 hl), hu⟩, fun v' H' hy => ?_⟩
        obtain ⟨T, x', rfl, hT, rfl, hx'⟩ := hy
        have e3 := hx' vs (Same.sql w3.f (Same.sql s3 hl))
        rw [hu] at e3
        cases e3
        exact ⟨_, same_new (w3.noF hT), w3.newF hT, T, _, _, rfl, upd_same, rfl, Mono.mono (s3.trans (same_new (w3.noF hT))) hr⟩⟩⟩)
/-- zip(xs, ys), of one length -/
theorem ei_zip {elts : List Expr} {kk : Nat} {tpos : Pos} {xs : List α} {ys : List β} [m : Mono r] [m2 : Mono s] (hm : X.mg "zip" = none) (ha : EvF X a σ F M (rsR X.K r) xs) (hb : EvF X b σ F M (rsR X.K s) ys) (hlen : xs.length = ys.length) (hg : Gl X "zip" := by rfl)
    (hs : starEach [a, b] X.env = (false, eval a X.env) :: starEach [b] X.env := by rfl) (hs2 : starEach [b] X.env = (false, eval b X.env) :: starEach [] X.env := by rfl) (hpl : (backTo pos (starEach [b] X.env)).any (·.1) = false := by rfl) :
    EvI X (.Tuple elts kk tpos) (.Call (.Name "zip" p) [a, b] [] pos) σ F M (t2R r s) (xs.zip ys) :=
  fun F1 H1 s1 w R q => wi_of (pi_zip hg hm (pa_cons (pe_w a) (pa_cons (pe_w b) pa_nil hs2) hs) hs hpl) (ha F1 H1 s1 w _ fun F2 H2 v s2 w2 ⟨l, vs, e, hl, h2⟩ => hb F2 H2 (s1.trans s2) w2 _ fun F3 H3 v' s3 w3 ⟨l', vs', e', hl', h2'⟩ =>
    ⟨l, l', vs, vs', by rw [e, e'], Same.sql w3.f (Same.sql s3 hl), Same.sql w3.f hl', q F3 H3 _ (s2.trans s3) w3 fun i F4 M4 H4 s4 w4 =>
    ⟨fun hi => ⟨vs, vs', Same.sql w4.f (Same.sql (s3.trans s4) hl), Same.sql w4.f (Same.sql s4 hl'), by
        rw [List.length_zip] at hi
        have := h2.len; have := h2'.len
        first | omega | exact .inl (by omega)⟩, fun x hx => by
      rw [List.getElem?_zip_eq_some] at hx
      obtain ⟨u, hu, hr⟩ := h2.get hx.1
      obtain ⟨u', hu', hr'⟩ := h2'.get hx.2
      refine ⟨⟨vs, vs', u, u', Same.sql w4.f (Same.sql (s3.trans s4) hl), Same.sql w4.f (Same.sql s4 hl'), hu, hu'⟩, fun z H' hy => ?_⟩
      obtain ⟨T, x1, x2, rfl, hT, rfl, f1, f2⟩ := hy
      have e1 := f1 vs (Same.sql w4.f (Same.sql (s3.trans s4) hl))
      have e2 := f2 vs' (Same.sql w4.f (Same.sql s4 hl'))
      rw [hu] at e1; cases e1
      rw [hu'] at e2; cases e2
      exact ⟨_, same_new (w4.noF hT), w4.newF hT, T, _, _, rfl, upd_same, Mono.mono ((s3.trans s4).trans (same_new (w4.noF hT))) hr, Mono.mono (s4.trans (same_new (w4.noF hT))) hr'⟩⟩⟩)
theorem ev_abs {i : Int} (hm : X.mg "abs" = none) (ha : EvF X a σ F M iR i) (hg : Gl X "abs" := by rfl) (he : starEach [a] X.env = (false, eval a X.env) :: starEach [] X.env := by rfl) (hpl : (backTo pos (starEach [] X.env)).any (·.1) = false := by rfl) :
    EvF X (.Call (.Name "abs" p) [a] [] pos) σ F M iR (if i < 0 then -i else i) :=
  fun F1 H1 s w Q q => we_of (pe_callB call_abs hg hm (by decide +kernel) (pa_cons (pe_w a) pa_nil he) (he := he) (hpl := hpl)) (ha F1 H1 s w _ fun F2 H2 v s2 w2 hv => ⟨i, by rw [show v = V.int i from hv], q F2 H2 _ s2 w2 rfl⟩)
end
end Y

/-! ### comprehensions with a tuple target; lists of unlike things; what is unpacked; what may be spoiled -/
namespace Y
open PySem PySem.Spec PyProof.Rows L2
section
variable {X : Cx} {σ : L2.St} {F M H : Hp} {a b c e : Expr} {pos p p2 p3 p4 : Pos} {α β γ δ : Type} {r1 : Rep α} {r2 : Rep β} {r3 : Rep γ} {s : Rep δ} {n n2 n3 : Str} {rest : List Stmt} {D : Ends}
theorem wipe_set_out {i : Nat} {x : Option V} : ∀ {ws : List Nat} {τ : L2.St}, i ∉ ws → wipe (List.set τ i x) ws = List.set (wipe τ ws) i x
  | [], _, _ => rfl
  | v :: vs, τ, h => by
    have h1 : i ≠ v := fun q => h (by simp [q])
    have h2 : i ∉ vs := fun q => h (by simp [q])
    show List.set (wipe (List.set τ i x) vs) v none = List.set (List.set (wipe τ vs) v none) i x
    rw [wipe_set_out h2, List.set_comm _ _ h1]
theorem wipe_set_in {i : Nat} {x : Option V} : ∀ {ws : List Nat} {τ : L2.St}, i ∈ ws → wipe (List.set τ i x) ws = wipe τ ws
  | [], _, h => by simp at h
  | v :: vs, τ, h => by
    show List.set (wipe (List.set τ i x) vs) v none = List.set (wipe τ vs) v none
    by_cases q : i ∈ vs
    · rw [wipe_set_in q]
    · have e : i = v := by
        rcases List.mem_cons.mp h with e | e
        · exact e
        · exact absurd e q
      subst e
      rw [wipe_set_out q, List.set_set]
theorem wipe_wipe {τ : L2.St} : ∀ {us ws : List Nat}, (∀ i ∈ us, i ∈ ws) → wipe (wipe τ us) ws = wipe τ ws
  | [], _, _ => rfl
  | u :: us, ws, h => by
    show wipe (List.set (wipe τ us) u none) ws = wipe τ ws
    rw [wipe_set_in (h u (by simp)), wipe_wipe fun i hi => h i (by simp [hi])]
theorem wipe2 {σ : L2.St} {i j : Nat} {u v : Option V} : wipe (List.set (List.set (wipe σ [i, j]) i u) j v) [i, j] = wipe σ [i, j] := by
  rw [wipe_set_in (by simp), wipe_set_in (by simp), wipe_wipe (by simp)]
theorem wipe3 {σ : L2.St} {i j k : Nat} {u v z : Option V} : wipe (List.set (List.set (List.set (wipe σ [i, j, k]) i u) j v) k z) [i, j, k] = wipe σ [i, j, k] := by
  rw [wipe_set_in (by simp), wipe_set_in (by simp), wipe_set_in (by simp), wipe_wipe (by simp)]
abbrev PGb (X : Cx) (scope : Scope) (tg : Expr) (g : TG) : Prop := ∀ (s : Shared) (H : Hp) (C : Addr) (cl : List (Str × Addr)) (fp : List Addr), PG (X.blk s H scope (compEnvC scope cl C X.env) fp) tg g
theorem pg_b2 {scope : Scope} {i j : Nat} {ki} (hN : X.N.Nodup) (hc : X.calm = true := by rfl) (h1 : X.N[i]? = some n := by rfl) (h2 : X.N[j]? = some n2 := by rfl) (f1 : ∀ s H C cl fp, Loc (X.blk s H scope (compEnvC scope cl C X.env) fp).env.scope n := by exact fun _ _ _ _ _ => Or.inl rfl) (f2 : ∀ s H C cl fp, Loc (X.blk s H scope (compEnvC scope cl C X.env) fp).env.scope n2 := by exact fun _ _ _ _ _ => Or.inl rfl)
    (k1 : ∀ s H C cl fp, (X.blk s H scope (compEnvC scope cl C X.env) fp).fn n = true ∨ (X.blk s H scope (compEnvC scope cl C X.env) fp).env.scope.names.lookup n = some .local := by first | exact fun _ _ _ _ _ => .inl rfl | exact fun _ _ _ _ _ => .inr rfl) (k2 : ∀ s H C cl fp, (X.blk s H scope (compEnvC scope cl C X.env) fp).fn n2 = true ∨ (X.blk s H scope (compEnvC scope cl C X.env) fp).env.scope.names.lookup n2 = some .local := by first | exact fun _ _ _ _ _ => .inl rfl | exact fun _ _ _ _ _ => .inr rfl) :
    PGb X scope (.Tuple [.Name n p, .Name n2 p2] ki p3) (gTup X.K 2 (gCons (gName i) (gCons (gName j) gNil))) := fun s H C cl fp =>
  pg_tup hc (pgs_cons (pg_name hN h1 (f1 s H C cl fp) (k1 s H C cl fp)) (pgs_cons (pg_name hN h2 (f2 s H C cl fp) (k2 s H C cl fp)) pgs_nil rfl) rfl) rfl rfl
theorem pg_b3 {scope : Scope} {i j k : Nat} {ki} (hN : X.N.Nodup) (hc : X.calm = true := by rfl) (h1 : X.N[i]? = some n := by rfl) (h2 : X.N[j]? = some n2 := by rfl) (h3 : X.N[k]? = some n3 := by rfl) (f1 : ∀ s H C cl fp, Loc (X.blk s H scope (compEnvC scope cl C X.env) fp).env.scope n := by exact fun _ _ _ _ _ => Or.inl rfl) (f2 : ∀ s H C cl fp, Loc (X.blk s H scope (compEnvC scope cl C X.env) fp).env.scope n2 := by exact fun _ _ _ _ _ => Or.inl rfl) (f3 : ∀ s H C cl fp, Loc (X.blk s H scope (compEnvC scope cl C X.env) fp).env.scope n3 := by exact fun _ _ _ _ _ => Or.inl rfl)
    (k1 : ∀ s H C cl fp, (X.blk s H scope (compEnvC scope cl C X.env) fp).fn n = true ∨ (X.blk s H scope (compEnvC scope cl C X.env) fp).env.scope.names.lookup n = some .local := by first | exact fun _ _ _ _ _ => .inl rfl | exact fun _ _ _ _ _ => .inr rfl) (k2 : ∀ s H C cl fp, (X.blk s H scope (compEnvC scope cl C X.env) fp).fn n2 = true ∨ (X.blk s H scope (compEnvC scope cl C X.env) fp).env.scope.names.lookup n2 = some .local := by first | exact fun _ _ _ _ _ => .inl rfl | exact fun _ _ _ _ _ => .inr rfl) (k3 : ∀ s H C cl fp, (X.blk s H scope (compEnvC scope cl C X.env) fp).fn n3 = true ∨ (X.blk s H scope (compEnvC scope cl C X.env) fp).env.scope.names.lookup n3 = some .local := by first | exact fun _ _ _ _ _ => .inl rfl | exact fun _ _ _ _ _ => .inr rfl) :
    PGb X scope (.Tuple [.Name n p, .Name n2 p2, .Name n3 p3] ki p4) (gTup X.K 3 (gCons (gName i) (gCons (gName j) (gCons (gName k) gNil)))) := fun s H C cl fp =>
  pg_tup hc (pgs_cons (pg_name hN h1 (f1 s H C cl fp) (k1 s H C cl fp)) (pgs_cons (pg_name hN h2 (f2 s H C cl fp) (k2 s H C cl fp)) (pgs_cons (pg_name hN h3 (f3 s H C cl fp) (k3 s H C cl fp)) pgs_nil rfl) rfl) rfl) rfl rfl
/-- [.. for x, y in ..]: x in slot i, y in slot j -/
theorem en_lc2 (i j : Nat) {elt it : Expr} {ifs : List Expr} {scope : Scope} {ki} {xs : List (α × β)} [m : Mono s] (pr : α × β → Bool) (f : α × β → δ)
    (hi : EvI X (.Tuple [.Name n p, .Name n2 p2] ki p3) it σ F M (t2R r1 r2) xs)
    (ht : ∀ x y u v F1 M1, (x, y) ∈ xs → Sub F F1 → Same M M1 → r1 F1 u x → r2 F1 v y → ∀ Y, Blk X scope Y → EvTs Y ifs (((wipe σ [i, j]).set i (some u)).set j (some v)) F1 M1 (pr (x, y)) ∧ (pr (x, y) = true → EvF Y elt (((wipe σ [i, j]).set i (some u)).set j (some v)) F1 M1 s (f (x, y))))
    (hl : xs.length < 1000000) (hN : X.N.Nodup) (hg : PGb X scope (.Tuple [.Name n p, .Name n2 p2] ki p3) (gTup X.K 2 (gCons (gName i) (gCons (gName j) gNil))) := by exact pg_b2 (by assumption)) (hb : blkC X.N X.env.scope scope [(n, i), (n2, j)] = true := by decide +kernel) (hc : X.calm = true := by rfl)
    (hs : ∀ x, foldedSetIterable it X.env x = pure x := by intro _; rfl) :
    EvN X (.ListComp elt [⟨.Tuple [.Name n p, .Name n2 p2] ki p3, it, ifs, 0⟩] scope pos) σ F M s ((xs.filter pr).map f) :=
  en_lc_core [(n, i), (n2, j)] pr f hi hg (fun q v F1 M1 H1 hx s1 s2 w ⟨l, u, z, e, hl, hr1, hr2⟩ R k =>
    ⟨l, _, e, SqT.of (w.f _ _ hl), rfl, _, _, rfl, _, _, rfl, rfl, k _ wipe2 (fun Y hY => (ht q.1 q.2 u z F1 M1 hx s1 s2 hr1 hr2 Y hY).1) (fun hp Y hY => (ht q.1 q.2 u z F1 M1 hx s1 s2 hr1 hr2 Y hY).2 hp)⟩) hl hN (blkOk_by hb) hc hs
theorem ss_lc2 (k i j : Nat) {y : Str} {py spos : Pos} {elt it : Expr} {ifs : List Expr} {scope : Scope} {ki} {xs : List (α × β)} [m : Mono s] (pr : α × β → Bool) (f : α × β → δ)
    (hi : EvI X (.Tuple [.Name n p, .Name n2 p2] ki p3) it σ F M (t2R r1 r2) xs)
    (ht : ∀ x y u v F1 M1, (x, y) ∈ xs → Sub F F1 → Same M M1 → r1 F1 u x → r2 F1 v y → ∀ Y, Blk X scope Y → EvTs Y ifs (((wipe σ [i, j]).set i (some u)).set j (some v)) F1 M1 (pr (x, y)) ∧ (pr (x, y) = true → EvF Y elt (((wipe σ [i, j]).set i (some u)).set j (some v)) F1 M1 s (f (x, y))))
    (hl : xs.length < 1000000) (hN : X.N.Nodup) (w : Own F M H)
    (kk : ∀ F2 H2 l vs, Same F F2 → M l = none → Own F2 (upd M l (.lst vs)) H2 → A2 (s F2) vs ((xs.filter pr).map f) → WSs X rest D (σ.set k (some (.ref l))) H2)
    (hy : X.N[k]? = some y := by rfl) (hyl : X.env.scope.names.lookup y = some .local := by rfl) (hsw : swapsWith (.ListComp elt [⟨.Tuple [.Name n p, .Name n2 p2] ki p3, it, ifs, 0⟩] scope pos) (some (.Name y py)) spos.line X.env = pure true := by exact sw_true rfl rfl rfl (by decide +kernel))
    (hg : PGb X scope (.Tuple [.Name n p, .Name n2 p2] ki p3) (gTup X.K 2 (gCons (gName i) (gCons (gName j) gNil))) := by exact pg_b2 (by assumption)) (hb : blkC X.N X.env.scope scope [(n, i), (n2, j)] = true := by decide +kernel) (hc : X.calm = true := by rfl)
    (hs : ∀ x, foldedSetIterable it X.env x = pure x := by intro _; rfl) :
    WSs X (.Assign [.Name y py] (.ListComp elt [⟨.Tuple [.Name n p, .Name n2 p2] ki p3, it, ifs, 0⟩] scope pos) spos :: rest) D σ H :=
  ss_lc_core k [(n, i), (n2, j)] pr f hi hg (fun q v F1 M1 H1 hx s1 s2 w ⟨l, u, z, e, hl, hr1, hr2⟩ R k =>
    ⟨l, _, e, SqT.of (w.f _ _ hl), rfl, _, _, rfl, _, _, rfl, rfl, k _ wipe2 (fun Y hY => (ht q.1 q.2 u z F1 M1 hx s1 s2 hr1 hr2 Y hY).1) (fun hp Y hY => (ht q.1 q.2 u z F1 M1 hx s1 s2 hr1 hr2 Y hY).2 hp)⟩) hl hN (blkOk_by hb) w kk hy hyl hsw hc hs
theorem en_lc3 (i j k : Nat) {elt it : Expr} {ifs : List Expr} {scope : Scope} {ki} {xs : List (α × β × γ)} [m : Mono s] (pr : α × β × γ → Bool) (f : α × β × γ → δ)
    (hi : EvI X (.Tuple [.Name n p, .Name n2 p2, .Name n3 p3] ki p4) it σ F M (t3R r1 r2 r3) xs)
    (ht : ∀ x y z u v t F1 M1, (x, y, z) ∈ xs → Sub F F1 → Same M M1 → r1 F1 u x → r2 F1 v y → r3 F1 t z → ∀ Y, Blk X scope Y → EvTs Y ifs ((((wipe σ [i, j, k]).set i (some u)).set j (some v)).set k (some t)) F1 M1 (pr (x, y, z)) ∧ (pr (x, y, z) = true → EvF Y elt ((((wipe σ [i, j, k]).set i (some u)).set j (some v)).set k (some t)) F1 M1 s (f (x, y, z))))
    (hl : xs.length < 1000000) (hN : X.N.Nodup) (hg : PGb X scope (.Tuple [.Name n p, .Name n2 p2, .Name n3 p3] ki p4) (gTup X.K 3 (gCons (gName i) (gCons (gName j) (gCons (gName k) gNil)))) := by exact pg_b3 (by assumption)) (hb : blkC X.N X.env.scope scope [(n, i), (n2, j), (n3, k)] = true := by decide +kernel) (hc : X.calm = true := by rfl)
    (hs : ∀ x, foldedSetIterable it X.env x = pure x := by intro _; rfl) :
    EvN X (.ListComp elt [⟨.Tuple [.Name n p, .Name n2 p2, .Name n3 p3] ki p4, it, ifs, 0⟩] scope pos) σ F M s ((xs.filter pr).map f) :=
  en_lc_core [(n, i), (n2, j), (n3, k)] pr f hi hg (fun q v F1 M1 H1 hx s1 s2 w ⟨l, u, z, t, e, hl, hr1, hr2, hr3⟩ R kk =>
    ⟨l, _, e, SqT.of (w.f _ _ hl), rfl, _, _, rfl, _, _, rfl, _, _, rfl, rfl, kk _ wipe3 (fun Y hY => (ht q.1 q.2.1 q.2.2 u z t F1 M1 hx s1 s2 hr1 hr2 hr3 Y hY).1) (fun hp Y hY => (ht q.1 q.2.1 q.2.2 u z t F1 M1 hx s1 s2 hr1 hr2 hr3 Y hY).2 hp)⟩) hl hN (blkOk_by hb) hc hs
theorem ss_lc3 (l0 i j k : Nat) {y : Str} {py spos : Pos} {elt it : Expr} {ifs : List Expr} {scope : Scope} {ki} {xs : List (α × β × γ)} [m : Mono s] (pr : α × β × γ → Bool) (f : α × β × γ → δ)
    (hi : EvI X (.Tuple [.Name n p, .Name n2 p2, .Name n3 p3] ki p4) it σ F M (t3R r1 r2 r3) xs)
    (ht : ∀ x y z u v t F1 M1, (x, y, z) ∈ xs → Sub F F1 → Same M M1 → r1 F1 u x → r2 F1 v y → r3 F1 t z → ∀ Y, Blk X scope Y → EvTs Y ifs ((((wipe σ [i, j, k]).set i (some u)).set j (some v)).set k (some t)) F1 M1 (pr (x, y, z)) ∧ (pr (x, y, z) = true → EvF Y elt ((((wipe σ [i, j, k]).set i (some u)).set j (some v)).set k (some t)) F1 M1 s (f (x, y, z))))
    (hl : xs.length < 1000000) (hN : X.N.Nodup) (w : Own F M H)
    (kk : ∀ F2 H2 l vs, Same F F2 → M l = none → Own F2 (upd M l (.lst vs)) H2 → A2 (s F2) vs ((xs.filter pr).map f) → WSs X rest D (σ.set l0 (some (.ref l))) H2)
    (hy : X.N[l0]? = some y := by rfl) (hyl : X.env.scope.names.lookup y = some .local := by rfl) (hsw : swapsWith (.ListComp elt [⟨.Tuple [.Name n p, .Name n2 p2, .Name n3 p3] ki p4, it, ifs, 0⟩] scope pos) (some (.Name y py)) spos.line X.env = pure true := by exact sw_true rfl rfl rfl (by decide +kernel))
    (hg : PGb X scope (.Tuple [.Name n p, .Name n2 p2, .Name n3 p3] ki p4) (gTup X.K 3 (gCons (gName i) (gCons (gName j) (gCons (gName k) gNil)))) := by exact pg_b3 (by assumption)) (hb : blkC X.N X.env.scope scope [(n, i), (n2, j), (n3, k)] = true := by decide +kernel) (hc : X.calm = true := by rfl)
    (hs : ∀ x, foldedSetIterable it X.env x = pure x := by intro _; rfl) :
    WSs X (.Assign [.Name y py] (.ListComp elt [⟨.Tuple [.Name n p, .Name n2 p2, .Name n3 p3] ki p4, it, ifs, 0⟩] scope pos) spos :: rest) D σ H :=
  ss_lc_core l0 [(n, i), (n2, j), (n3, k)] pr f hi hg (fun q v F1 M1 H1 hx s1 s2 w ⟨l, u, z, t, e, hl, hr1, hr2, hr3⟩ R kk =>
    ⟨l, _, e, SqT.of (w.f _ _ hl), rfl, _, _, rfl, _, _, rfl, _, _, rfl, rfl, kk _ wipe3 (fun Y hY => (ht q.1 q.2.1 q.2.2 u z t F1 M1 hx s1 s2 hr1 hr2 hr3 Y hY).1) (fun hp Y hY => (ht q.1 q.2.1 q.2.2 u z t F1 M1 hx s1 s2 hr1 hr2 hr3 Y hY).2 hp)⟩) hl hN (blkOk_by hb) w kk hy hyl hsw hc hs
end
end Y

/-! ### lists of unlike things; what is unpacked; what may be spoiled -/
namespace Y
open PySem PySem.Spec PyProof.Rows L2
/-- a list of two, three unlike things -/
def h2R {α β : Type} (r : Rep α) (s : Rep β) : Rep (α × β) := fun F v x => ∃ a u w, v = .ref a ∧ F a = some (.lst [u, w]) ∧ r F u x.1 ∧ s F w x.2
def h3R {α β γ : Type} (r : Rep α) (s : Rep β) (t : Rep γ) : Rep (α × β × γ) := fun F v x => ∃ a u w z, v = .ref a ∧ F a = some (.lst [u, w, z]) ∧ r F u x.1 ∧ s F w x.2.1 ∧ t F z x.2.2
instance {α β : Type} {r : Rep α} {s : Rep β} [m : Mono r] [n : Mono s] : Mono (h2R r s) := ⟨fun e ⟨a, u, w, h1, h2, h3, h4⟩ => ⟨a, u, w, h1, e.lst h2, m.sub e h3, n.sub e h4⟩⟩
instance {α β γ : Type} {r : Rep α} {s : Rep β} {t : Rep γ} [m : Mono r] [n : Mono s] [k : Mono t] : Mono (h3R r s t) := ⟨fun e ⟨a, u, w, z, h1, h2, h3, h4, h5⟩ => ⟨a, u, w, z, h1, e.lst h2, m.sub e h3, n.sub e h4, k.sub e h5⟩⟩
instance {α β : Type} {r : Rep α} {s : Rep β} : NotN (h2R r s) := ⟨fun ⟨a, _, _, e, _⟩ => by subst e; exact fun z => nomatch z⟩
instance {α β : Type} {r : Rep α} {s : Rep β} : TyIs (h2R r s) "list" := ⟨fun ⟨a, u, w, e, h, _⟩ => by subst e; exact .base (.lst h)⟩
instance {α β γ : Type} {r : Rep α} {s : Rep β} {t : Rep γ} : TyIs (h3R r s t) "list" := ⟨fun ⟨a, u, w, z, e, h, _⟩ => by subst e; exact .base (.lst h)⟩
instance {α β : Type} {r : Rep α} {s : Rep β} [d : DEq r] [e : DEq s] : DEq (h2R r s) where
  toD := fun x => .list [d.toD x.1, e.toD x.2]
  dep := max d.dep e.dep + 1
  dp := fun ⟨a, u, w, q, h1, h2, h3⟩ => by subst q; exact .lst (SqL.of h1) (.cons (d.dp h2) (.cons (e.dp h3) .nil))
  lay := fun ⟨a, u, w, q, h1, h2, h3⟩ => by
    show (PyData.canLay0 _ && (PyData.canLay0 _ && true)) = true
    rw [d.lay h2, e.lay h3]; rfl
  dpt := fun x => by
    show max (PyData.depth _) (max (PyData.depth _) 0) + 1 ≤ _
    have h1 := d.dpt x.1
    have h2 := e.dpt x.2
    omega
  eqv := fun x y => by
    show ((PyData.eqv _ _ && (PyData.eqv _ _ && true)) = true) ↔ _
    rw [Bool.and_eq_true, Bool.and_eq_true, d.eqv, e.eqv]
    cases x; cases y; simp
instance {α β γ : Type} {r : Rep α} {s : Rep β} {t : Rep γ} [d : DEq r] [e : DEq s] [f : DEq t] : DEq (h3R r s t) where
  toD := fun x => .list [d.toD x.1, e.toD x.2.1, f.toD x.2.2]
  dep := max d.dep (max e.dep f.dep) + 1
  dp := fun ⟨a, u, w, z, q, h1, h2, h3, h4⟩ => by subst q; exact .lst (SqL.of h1) (.cons (d.dp h2) (.cons (e.dp h3) (.cons (f.dp h4) .nil)))
  lay := fun ⟨a, u, w, z, q, h1, h2, h3, h4⟩ => by
    show (PyData.canLay0 _ && (PyData.canLay0 _ && (PyData.canLay0 _ && true))) = true
    rw [d.lay h2, e.lay h3, f.lay h4]; rfl
  dpt := fun x => by
    show max (PyData.depth _) (max (PyData.depth _) (max (PyData.depth _) 0)) + 1 ≤ _
    have h1 := d.dpt x.1
    have h2 := e.dpt x.2.1
    have h3 := f.dpt x.2.2
    omega
  eqv := fun x y => by
    show ((PyData.eqv _ _ && (PyData.eqv _ _ && (PyData.eqv _ _ && true))) = true) ↔ _
    rw [Bool.and_eq_true, Bool.and_eq_true, Bool.and_eq_true, d.eqv, e.eqv, f.eqv]
    obtain ⟨x1, x2, x3⟩ := x
    obtain ⟨y1, y2, y3⟩ := y
    simp
/-- a list that is not of the heap F0: it came to be later -/
def lNR (F0 : Hp) {α : Type} (r : Rep α) : Rep (List α) := fun F v xs => ∃ a vs, v = .ref a ∧ F0 a = none ∧ F a = some (.lst vs) ∧ A2 (r F) vs xs
instance {F0 : Hp} {α : Type} {r : Rep α} [m : Mono r] : Mono (lNR F0 r) := ⟨fun e ⟨a, vs, h1, h0, h2, h3⟩ => ⟨a, vs, h1, h0, e.lst h2, h3.sub e⟩⟩
theorem lNR.l {F0 F : Hp} {α : Type} {r : Rep α} {v : V} {xs : List α} (h : lNR F0 r F v xs) : lR r F v xs := let ⟨a, vs, h1, _, h2, h3⟩ := h; ⟨a, vs, h1, h2, h3⟩
theorem A2.mono2 {α : Type} {r s : Rep α} {F : Hp} (f : ∀ v x, r F v x → s F v x) {vs : List V} {xs : List α} (h : A2 (r F) vs xs) : A2 (s F) vs xs := h.imp f
section
variable {X : Cx} {σ : L2.St} {F M H : Hp} {a b c e : Expr} {pos p p2 p3 p4 : Pos} {α β γ δ : Type} {r : Rep α} {r1 : Rep α} {r2 : Rep β} {r3 : Rep γ} {s : Rep δ} {n n2 n3 : Str} {rest : List Stmt} {D : Ends}
theorem Ev.ln {F0 : Hp} {xs : List α} (h : EvF X e σ F M (lNR F0 r) xs) : EvF X e σ F M (lR r) xs := h.imp fun _ _ q => q.l
theorem EvN.eqx {xs ys : List α} (h : EvN X e σ F M r xs) (q : xs = ys) : EvN X e σ F M r ys := q ▸ h
theorem EvN.fzN {xs : List α} [m : Mono r] (h : EvN X e σ F M r xs) : EvF X e σ F M (lNR F r) xs := fun F1 H1 s w Q q => h F1 H1 s w Q fun F2 H2 a vs s2 w2 n1 n2 hh h2 =>
  q _ H2 _ (s2.trans (same_new n1)) (w2.keepF n1 n2 hh) ⟨a, vs, rfl, Same.no (s.trans s2) n1, upd_same, h2.up (same_new n1)⟩
theorem ev_h2 {a b : Expr} {x : α} {y : β} [m : Mono r1] [n : Mono r2] (ha : EvF X a σ F M r1 x) (hb : EvF X b σ F M r2 y) (hs : starEach [a, b] X.env = (false, eval a X.env) :: starEach [b] X.env := by rfl) (hs2 : starEach [b] X.env = (false, eval b X.env) :: starEach [] X.env := by rfl) :
    EvF X (.List [a, b] pos) σ F M (h2R r1 r2) (x, y) :=
  fun F1 H1 s w Q q => we_of (pe_lst (pa_w [a, b])) (ea_cons ha (ea_cons hb ea_nil hs2) hs F1 H1 s w _ fun F2 H2 vs s2 w2 ⟨v, us, e1, h1, u, us2, e2, h2, e3⟩ => by
    subst e1 e2 e3
    refine ⟨small_of (by simp), fun p hp => ?_⟩
    exact q _ _ _ (s2.trans (same_new (w2.noF hp))) (w2.newF hp) ⟨p, v, u, rfl, upd_same, Mono.mono (same_new (w2.noF hp)) h1, Mono.mono (same_new (w2.noF hp)) h2⟩)
theorem ev_h3 {a b c : Expr} {x : α} {y : β} {z : γ} [m : Mono r1] [n : Mono r2] [k : Mono r3] (ha : EvF X a σ F M r1 x) (hb : EvF X b σ F M r2 y) (hc : EvF X c σ F M r3 z) (hs : starEach [a, b, c] X.env = (false, eval a X.env) :: starEach [b, c] X.env := by rfl)
    (hs1 : starEach [b, c] X.env = (false, eval b X.env) :: starEach [c] X.env := by rfl) (hs2 : starEach [c] X.env = (false, eval c X.env) :: starEach [] X.env := by rfl) :
    EvF X (.List [a, b, c] pos) σ F M (h3R r1 r2 r3) (x, y, z) :=
  fun F1 H1 s w Q q => we_of (pe_lst (pa_w [a, b, c])) (ea_cons ha (ea_cons hb (ea_cons hc ea_nil hs2) hs1) hs F1 H1 s w _ fun F2 H2 vs s2 w2 ⟨v, us, e1, h1, u, us2, e2, h2, u3, us3, e3, h3, e4⟩ => by
    subst e1 e2 e3 e4
    refine ⟨small_of (by simp), fun p hp => ?_⟩
    exact q _ _ _ (s2.trans (same_new (w2.noF hp))) (w2.newF hp) ⟨p, v, u, u3, rfl, upd_same, Mono.mono (same_new (w2.noF hp)) h1, Mono.mono (same_new (w2.noF hp)) h2, Mono.mono (same_new (w2.noF hp)) h3⟩)
theorem ev_h2_0 {x : α × β} {j} {q1} (ha : EvF X a σ F M (h2R r1 r2) x) (hs : PlainIx (.Constant (.int 0) j q1) := by exact fun _ _ => rfl) : EvF X (.Subscript a (.Constant (.int 0) j q1) pos) σ F M r1 x.1 :=
  fun F1 H1 s w Q q => we_of (pe_ix ix_list (pe_w a) pe_int hs) (ha F1 H1 s w _ fun F2 H2 v s2 w2 ⟨l, u, z, e, hl, h1, h2⟩ => ⟨l, _, 0, u, e, rfl, SqL.of (w2.f _ _ hl), rfl, q F2 H2 _ s2 w2 h1⟩)
theorem ev_h2_1 {x : α × β} {j} {q1} (ha : EvF X a σ F M (h2R r1 r2) x) (hs : PlainIx (.Constant (.int 1) j q1) := by exact fun _ _ => rfl) : EvF X (.Subscript a (.Constant (.int 1) j q1) pos) σ F M r2 x.2 :=
  fun F1 H1 s w Q q => we_of (pe_ix ix_list (pe_w a) pe_int hs) (ha F1 H1 s w _ fun F2 H2 v s2 w2 ⟨l, u, z, e, hl, h1, h2⟩ => ⟨l, _, 1, z, e, rfl, SqL.of (w2.f _ _ hl), rfl, q F2 H2 _ s2 w2 h2⟩)
theorem ev_h3_0 {x : α × β × γ} {j} {q1} (ha : EvF X a σ F M (h3R r1 r2 r3) x) (hs : PlainIx (.Constant (.int 0) j q1) := by exact fun _ _ => rfl) : EvF X (.Subscript a (.Constant (.int 0) j q1) pos) σ F M r1 x.1 :=
  fun F1 H1 s w Q q => we_of (pe_ix ix_list (pe_w a) pe_int hs) (ha F1 H1 s w _ fun F2 H2 v s2 w2 ⟨l, u, z, y, e, hl, h1, h2, h3⟩ => ⟨l, _, 0, u, e, rfl, SqL.of (w2.f _ _ hl), rfl, q F2 H2 _ s2 w2 h1⟩)
theorem ev_h3_1 {x : α × β × γ} {j} {q1} (ha : EvF X a σ F M (h3R r1 r2 r3) x) (hs : PlainIx (.Constant (.int 1) j q1) := by exact fun _ _ => rfl) : EvF X (.Subscript a (.Constant (.int 1) j q1) pos) σ F M r2 x.2.1 :=
  fun F1 H1 s w Q q => we_of (pe_ix ix_list (pe_w a) pe_int hs) (ha F1 H1 s w _ fun F2 H2 v s2 w2 ⟨l, u, z, y, e, hl, h1, h2, h3⟩ => ⟨l, _, 1, z, e, rfl, SqL.of (w2.f _ _ hl), rfl, q F2 H2 _ s2 w2 h2⟩)
theorem ev_h3_2 {x : α × β × γ} {j} {q1} (ha : EvF X a σ F M (h3R r1 r2 r3) x) (hs : PlainIx (.Constant (.int 2) j q1) := by exact fun _ _ => rfl) : EvF X (.Subscript a (.Constant (.int 2) j q1) pos) σ F M r3 x.2.2 :=
  fun F1 H1 s w Q q => we_of (pe_ix ix_list (pe_w a) pe_int hs) (ha F1 H1 s w _ fun F2 H2 v s2 w2 ⟨l, u, z, y, e, hl, h1, h2, h3⟩ => ⟨l, _, 2, y, e, rfl, SqL.of (w2.f _ _ hl), rfl, q F2 H2 _ s2 w2 h3⟩)
/-- d[k] where k is a key -/
def dG {κ α : Type} [DecidableEq κ] [Inhabited α] (k : κ) (kvs : List (κ × α)) : α := (lk k kvs).getD default
theorem lk_dG {κ α : Type} [DecidableEq κ] [Inhabited α] {k : κ} {kvs : List (κ × α)} (h : (lk k kvs).isSome = true) : lk k kvs = some (dG k kvs) := by
  unfold dG
  cases q : lk k kvs with
  | none => rw [q] at h; cases h
  | some x => rfl
theorem dG_pt {κ α : Type} [DecidableEq κ] [Inhabited α] {k j : κ} {x : α} {kvs : List (κ × α)} : dG j (pt k x kvs) = if k = j then x else dG j kvs := by
  unfold dG
  rw [lk_pt]
  by_cases h : k = j
  · rw [if_pos h, if_pos h]; rfl
  · rw [if_neg h, if_neg h]
theorem call_lenDR {X : Cx} : CallR X (.builtin "len") (fun xs H Q => ∃ a kvs, xs = [V.ref a] ∧ Rd H a (.dK kvs) ∧ Q (.int kvs.length) H) := by
  intro pins s σ H xs us Q I r h
  obtain ⟨a, kvs, rfl, ha, q⟩ := h
  obtain ⟨u, rfl, ru⟩ := vals1 r
  cases ru
  exact d_len I ha fun t s' I' => ⟨.int kvs.length, H, I', ⟨t, rfl⟩, q⟩
theorem ev_lenD {κ : Type} [DecidableEq κ] [KeyT κ] {kvs : List (κ × α)} (hm : X.mg "len" = none) (ha : EvF X a σ F M (rdD M r) kvs) (hg : Gl X "len" := by rfl) (he : starEach [a] X.env = (false, eval a X.env) :: starEach [] X.env := by rfl) (hpl : (backTo pos (starEach [] X.env)).any (·.1) = false := by rfl) :
    EvF X (.Call (.Name "len" p) [a] [] pos) σ F M iR (kvs.length : Int) :=
  fun F1 H1 s w Q q => we_of (pe_callB call_lenDR hg hm PySem.boot_len (pa_cons (pe_w a) pa_nil he) (he := he) (hpl := hpl)) (ha F1 H1 s w _ fun F2 H2 v s2 w2 ⟨l, ks, e, hl, hk⟩ =>
    ⟨l, ks, by rw [e], rdD.rd w2 hl, q F2 H2 _ s2 w2 (show iR F2 (V.int (ks.length : Int)) (kvs.length : Int) from by rw [hk.len]; rfl)⟩)
abbrev srtT {α : Type} (r : Rep α) [t : TupI r] (xs : List α) : List α := srtK t.key xs
theorem ev_lenT2 {x : α × β} (hm : X.mg "len" = none) (ha : EvF X a σ F M (t2R r1 r2) x) (hg : Gl X "len" := by rfl) (he : starEach [a] X.env = (false, eval a X.env) :: starEach [] X.env := by rfl) (hpl : (backTo pos (starEach [] X.env)).any (·.1) = false := by rfl) :
    EvF X (.Call (.Name "len" p) [a] [] pos) σ F M iR (2 : Int) :=
  fun F1 H1 s w Q q => we_of (pe_callB call_len_seq hg hm PySem.boot_len (pa_cons (pe_w a) pa_nil he) (he := he) (hpl := hpl)) (ha F1 H1 s w _ fun F2 H2 v s2 w2 ⟨l, u, z, e, hl, h2⟩ =>
    ⟨l, [u, z], by rw [e], .inr (SqT.of (w2.f _ _ hl)), q F2 H2 _ s2 w2 rfl⟩)
theorem ev_lenT3 {x : α × β × γ} (hm : X.mg "len" = none) (ha : EvF X a σ F M (t3R r1 r2 r3) x) (hg : Gl X "len" := by rfl) (he : starEach [a] X.env = (false, eval a X.env) :: starEach [] X.env := by rfl) (hpl : (backTo pos (starEach [] X.env)).any (·.1) = false := by rfl) :
    EvF X (.Call (.Name "len" p) [a] [] pos) σ F M iR (3 : Int) :=
  fun F1 H1 s w Q q => we_of (pe_callB call_len_seq hg hm PySem.boot_len (pa_cons (pe_w a) pa_nil he) (he := he) (hpl := hpl)) (ha F1 H1 s w _ fun F2 H2 v s2 w2 ⟨l, u, z, t, e, hl, h2⟩ =>
    ⟨l, [u, z, t], by rw [e], .inr (SqT.of (w2.f _ _ hl)), q F2 H2 _ s2 w2 rfl⟩)
/-! unpacking -/
abbrev Lc (X : Cx) (n : Str) : Prop := X.fn n = true ∨ X.env.scope.names.lookup n = some .local
theorem ss_un2 (i j : Nat) {ki} {x : α × β} (he : EvF X e σ F M (t2R r1 r2) x) (w : Own F M H)
    (k : ∀ F2 H2 u z, Same F F2 → Own F2 M H2 → r1 F2 u x.1 → r2 F2 z x.2 → WSs X rest D (List.set (List.set σ i (some u)) j (some z)) H2)
    (hN : X.N.Nodup) (hi : X.N[i]? = some n := by rfl) (hj : X.N[j]? = some n2 := by rfl) (hx : Loc X.env.scope n := by first | exact Or.inl rfl | exact Or.inr rfl) (hx2 : Loc X.env.scope n2 := by first | exact Or.inl rfl | exact Or.inr rfl) (hf : Lc X n := by first | exact .inl rfl | exact .inr rfl) (hf2 : Lc X n2 := by first | exact .inl rfl | exact .inr rfl) (hc : X.calm = true := by rfl)
    (z1 : swapsWithSole [.Tuple [.Name n p, .Name n2 p2] ki p3] e pos.line X.env = pure false := by rfl) (z2 : swappedStores [.Tuple [.Name n p, .Name n2 p2] ki p3] e X.env = pure none := by rfl) (z3 : (assignEach [.Tuple [.Name n p, .Name n2 p2] ki p3] X.env).map (·.2) = [assign (.Tuple [.Name n p, .Name n2 p2] ki p3) X.env] := by rfl)
    (q1 : (assignEach [.Name n p, .Name n2 p2] X.env).map (·.2) = assign (.Name n p) X.env :: (assignEach [.Name n2 p2] X.env).map (·.2) := by rfl) (q2 : (assignEach [.Name n2 p2] X.env).map (·.2) = assign (.Name n2 p2) X.env :: (assignEach [] X.env).map (·.2) := by rfl)
    (q3 : (assignEach [.Name n p, .Name n2 p2] X.env).length = 2 := by rfl) (q4 : (assignEach [.Name n p, .Name n2 p2] X.env).findIdx? (·.1) = none := by rfl) :
    WSs X (.Assign [.Tuple [.Name n p, .Name n2 p2] ki p3] e pos :: rest) D σ H :=
  wss_cons (ws_of (ps_asg (pe_w e) (pg_tup hc (pgs_cons (pg_name hN hi hx hf) (pgs_cons (pg_name hN hj hx2 hf2) pgs_nil q2) q1) q3 q4) z1 z2 z3) (he F H (Same.refl _) w _ fun F2 H2 v s2 w2 ⟨l, u, z, e, hl, h1, h2⟩ =>
    ⟨l, _, e, SqT.of (w2.f _ _ hl), rfl, u, _, rfl, z, _, rfl, rfl, k F2 H2 u z s2 w2 h1 h2⟩))
theorem ss_un3 (i j m : Nat) {ki} {x : α × β × γ} (he : EvF X e σ F M (t3R r1 r2 r3) x) (w : Own F M H)
    (k : ∀ F2 H2 u z t, Same F F2 → Own F2 M H2 → r1 F2 u x.1 → r2 F2 z x.2.1 → r3 F2 t x.2.2 → WSs X rest D (List.set (List.set (List.set σ i (some u)) j (some z)) m (some t)) H2)
    (hN : X.N.Nodup) (hi : X.N[i]? = some n := by rfl) (hj : X.N[j]? = some n2 := by rfl) (hm : X.N[m]? = some n3 := by rfl) (hx : Loc X.env.scope n := by first | exact Or.inl rfl | exact Or.inr rfl) (hx2 : Loc X.env.scope n2 := by first | exact Or.inl rfl | exact Or.inr rfl) (hx3 : Loc X.env.scope n3 := by first | exact Or.inl rfl | exact Or.inr rfl) (hf : Lc X n := by first | exact .inl rfl | exact .inr rfl) (hf2 : Lc X n2 := by first | exact .inl rfl | exact .inr rfl) (hf3 : Lc X n3 := by first | exact .inl rfl | exact .inr rfl) (hc : X.calm = true := by rfl)
    (z1 : swapsWithSole [.Tuple [.Name n p, .Name n2 p2, .Name n3 p3] ki p4] e pos.line X.env = pure false := by rfl) (z2 : swappedStores [.Tuple [.Name n p, .Name n2 p2, .Name n3 p3] ki p4] e X.env = pure none := by rfl) (z3 : (assignEach [.Tuple [.Name n p, .Name n2 p2, .Name n3 p3] ki p4] X.env).map (·.2) = [assign (.Tuple [.Name n p, .Name n2 p2, .Name n3 p3] ki p4) X.env] := by rfl)
    (q1 : (assignEach [.Name n p, .Name n2 p2, .Name n3 p3] X.env).map (·.2) = assign (.Name n p) X.env :: (assignEach [.Name n2 p2, .Name n3 p3] X.env).map (·.2) := by rfl) (q2 : (assignEach [.Name n2 p2, .Name n3 p3] X.env).map (·.2) = assign (.Name n2 p2) X.env :: (assignEach [.Name n3 p3] X.env).map (·.2) := by rfl) (q2' : (assignEach [.Name n3 p3] X.env).map (·.2) = assign (.Name n3 p3) X.env :: (assignEach [] X.env).map (·.2) := by rfl)
    (q3 : (assignEach [.Name n p, .Name n2 p2, .Name n3 p3] X.env).length = 3 := by rfl) (q4 : (assignEach [.Name n p, .Name n2 p2, .Name n3 p3] X.env).findIdx? (·.1) = none := by rfl) :
    WSs X (.Assign [.Tuple [.Name n p, .Name n2 p2, .Name n3 p3] ki p4] e pos :: rest) D σ H :=
  wss_cons (ws_of (ps_asg (pe_w e) (pg_tup hc (pgs_cons (pg_name hN hi hx hf) (pgs_cons (pg_name hN hj hx2 hf2) (pgs_cons (pg_name hN hm hx3 hf3) pgs_nil q2') q2) q1) q3 q4) z1 z2 z3) (he F H (Same.refl _) w _ fun F2 H2 v s2 w2 ⟨l, u, z, t, e, hl, h1, h2, h3⟩ =>
    ⟨l, _, e, SqT.of (w2.f _ _ hl), rfl, u, _, rfl, z, _, rfl, t, _, rfl, rfl, k F2 H2 u z t s2 w2 h1 h2 h3⟩))
/-- .. of a list of two, three -/
theorem ss_ul2 (i j : Nat) {ki} {x : α × β} (he : EvF X e σ F M (h2R r1 r2) x) (w : Own F M H)
    (k : ∀ F2 H2 u z, Same F F2 → Own F2 M H2 → r1 F2 u x.1 → r2 F2 z x.2 → WSs X rest D (List.set (List.set σ i (some u)) j (some z)) H2)
    (hN : X.N.Nodup) (hi : X.N[i]? = some n := by rfl) (hj : X.N[j]? = some n2 := by rfl) (hx : Loc X.env.scope n := by first | exact Or.inl rfl | exact Or.inr rfl) (hx2 : Loc X.env.scope n2 := by first | exact Or.inl rfl | exact Or.inr rfl) (hf : Lc X n := by first | exact .inl rfl | exact .inr rfl) (hf2 : Lc X n2 := by first | exact .inl rfl | exact .inr rfl) (hc : X.calm = true := by rfl)
    (z1 : swapsWithSole [.Tuple [.Name n p, .Name n2 p2] ki p3] e pos.line X.env = pure false := by rfl) (z2 : swappedStores [.Tuple [.Name n p, .Name n2 p2] ki p3] e X.env = pure none := by rfl) (z3 : (assignEach [.Tuple [.Name n p, .Name n2 p2] ki p3] X.env).map (·.2) = [assign (.Tuple [.Name n p, .Name n2 p2] ki p3) X.env] := by rfl)
    (q1 : (assignEach [.Name n p, .Name n2 p2] X.env).map (·.2) = assign (.Name n p) X.env :: (assignEach [.Name n2 p2] X.env).map (·.2) := by rfl) (q2 : (assignEach [.Name n2 p2] X.env).map (·.2) = assign (.Name n2 p2) X.env :: (assignEach [] X.env).map (·.2) := by rfl)
    (q3 : (assignEach [.Name n p, .Name n2 p2] X.env).length = 2 := by rfl) (q4 : (assignEach [.Name n p, .Name n2 p2] X.env).findIdx? (·.1) = none := by rfl) :
    WSs X (.Assign [.Tuple [.Name n p, .Name n2 p2] ki p3] e pos :: rest) D σ H :=
  wss_cons (ws_of (ps_asg (pe_w e) (pg_unl hc (pgs_cons (pg_name hN hi hx hf) (pgs_cons (pg_name hN hj hx2 hf2) pgs_nil q2) q1) q3 q4) z1 z2 z3) (he F H (Same.refl _) w _ fun F2 H2 v s2 w2 ⟨l, u, z, e, hl, h1, h2⟩ =>
    ⟨l, _, e, SqL.of (w2.f _ _ hl), rfl, u, _, rfl, z, _, rfl, rfl, k F2 H2 u z s2 w2 h1 h2⟩))
theorem ss_ul3 (i j m : Nat) {ki} {x : α × β × γ} (he : EvF X e σ F M (h3R r1 r2 r3) x) (w : Own F M H)
    (k : ∀ F2 H2 u z t, Same F F2 → Own F2 M H2 → r1 F2 u x.1 → r2 F2 z x.2.1 → r3 F2 t x.2.2 → WSs X rest D (List.set (List.set (List.set σ i (some u)) j (some z)) m (some t)) H2)
    (hN : X.N.Nodup) (hi : X.N[i]? = some n := by rfl) (hj : X.N[j]? = some n2 := by rfl) (hm : X.N[m]? = some n3 := by rfl) (hx : Loc X.env.scope n := by first | exact Or.inl rfl | exact Or.inr rfl) (hx2 : Loc X.env.scope n2 := by first | exact Or.inl rfl | exact Or.inr rfl) (hx3 : Loc X.env.scope n3 := by first | exact Or.inl rfl | exact Or.inr rfl) (hf : Lc X n := by first | exact .inl rfl | exact .inr rfl) (hf2 : Lc X n2 := by first | exact .inl rfl | exact .inr rfl) (hf3 : Lc X n3 := by first | exact .inl rfl | exact .inr rfl) (hc : X.calm = true := by rfl)
    (z1 : swapsWithSole [.Tuple [.Name n p, .Name n2 p2, .Name n3 p3] ki p4] e pos.line X.env = pure false := by rfl) (z2 : swappedStores [.Tuple [.Name n p, .Name n2 p2, .Name n3 p3] ki p4] e X.env = pure none := by rfl) (z3 : (assignEach [.Tuple [.Name n p, .Name n2 p2, .Name n3 p3] ki p4] X.env).map (·.2) = [assign (.Tuple [.Name n p, .Name n2 p2, .Name n3 p3] ki p4) X.env] := by rfl)
    (q1 : (assignEach [.Name n p, .Name n2 p2, .Name n3 p3] X.env).map (·.2) = assign (.Name n p) X.env :: (assignEach [.Name n2 p2, .Name n3 p3] X.env).map (·.2) := by rfl) (q2 : (assignEach [.Name n2 p2, .Name n3 p3] X.env).map (·.2) = assign (.Name n2 p2) X.env :: (assignEach [.Name n3 p3] X.env).map (·.2) := by rfl) (q2' : (assignEach [.Name n3 p3] X.env).map (·.2) = assign (.Name n3 p3) X.env :: (assignEach [] X.env).map (·.2) := by rfl)
    (q3 : (assignEach [.Name n p, .Name n2 p2, .Name n3 p3] X.env).length = 3 := by rfl) (q4 : (assignEach [.Name n p, .Name n2 p2, .Name n3 p3] X.env).findIdx? (·.1) = none := by rfl) :
    WSs X (.Assign [.Tuple [.Name n p, .Name n2 p2, .Name n3 p3] ki p4] e pos :: rest) D σ H :=
  wss_cons (ws_of (ps_asg (pe_w e) (pg_unl hc (pgs_cons (pg_name hN hi hx hf) (pgs_cons (pg_name hN hj hx2 hf2) (pgs_cons (pg_name hN hm hx3 hf3) pgs_nil q2') q2) q1) q3 q4) z1 z2 z3) (he F H (Same.refl _) w _ fun F2 H2 v s2 w2 ⟨l, u, z, t, e, hl, h1, h2, h3⟩ =>
    ⟨l, _, e, SqL.of (w2.f _ _ hl), rfl, u, _, rfl, z, _, rfl, t, _, rfl, rfl, k F2 H2 u z t s2 w2 h1 h2 h3⟩))
/-! what is new since F0 may be spoiled: what stood in F0 stays -/
theorem ss_scrap {F0 : Hp} {o : Expr} {cpos apos : Pos} {xs : List α} {x : δ} (ho : EvF X o σ F M (lNR F0 r) xs) (he : EvF X e σ F M s x) (s0 : Same F0 F) (w : Own F M H) (hz : xs.length < 1000000)
    (k : ∀ H2, Own F0 M H2 → WSs X rest D σ H2)
    (hbase : attributeBase o "append" X.env (eval o X.env) = eval o X.env := by rfl)
    (hfew : ((backTo cpos (starEach [e] X.env)).all (fun x => !x.1) && (backToKw cpos (keywordEach [] X.env)).all (fun x => x.1.isSome)
      && decide ([e].length + ([] : List Keyword).length + (if ([] : List Keyword).isEmpty then 0 else 1) < 30)) = true := by rfl)
    (hline : (apos.endLine == cpos.line) = true := by rfl) (hst : starEach [e] X.env = (false, eval e X.env) :: starEach [] X.env := by rfl) (hplain : (backTo cpos (starEach [] X.env)).any (·.1) = false := by rfl)
    (hsw : swapsWith (.Call (.Attribute o "append" apos) [e] [] cpos) none pos.line X.env = pure false := by rfl) :
    WSs X (.Expr (.Call (.Attribute o "append" apos) [e] [] cpos) pos :: rest) D σ H :=
  wss_cons (ws_of (ps_expr (pe_bm PySem.F.plainAttrs_list PySem.F.slot_list_append PySem.F.type_list_append mt_append (pe_w o) (pa_cons (pe_w e) pa_nil hst) hbase hfew hline hst hplain) hsw)
    (ho F H (Same.refl _) w _ fun F2 H2 v s2 w2 ⟨l, vs, e1, n0, hl, h2⟩ => by
      subst e1
      refine ⟨.inl ⟨rfl, _, SqL.of (w2.f _ _ hl)⟩, he F2 H2 s2 w2 _ fun F3 H3 v3 s3 w3 hv3 => ⟨l, vs, v3, rfl, rfl, w3.f _ _ (s3 _ _ hl), Nat.lt_of_lt_of_le (by rw [h2.len]; exact hz) (by decide), ?_⟩⟩
      have w0 : Own F0 M H3 := w3.lessF (s0.trans (s2.trans s3))
      have hM : M l = none := by
        cases q : M l with
        | none => rfl
        | some x => have := w3.d l x q; rw [s3 _ _ hl] at this; cases this
      exact k _ ⟨same_in w0.f n0, same_in w0.m hM, w0.d, w0.t⟩))
end
theorem emod_in {a b : Int} (h : 0 < b) : 0 ≤ a % b ∧ a % b < b := ⟨Int.emod_nonneg _ (by omega), Int.emod_lt_of_pos _ h⟩
theorem nodup_le {α : Type} [DecidableEq α] : ∀ {ys xs : List α}, ys.Nodup → (∀ k ∈ ys, k ∈ xs) → ys.length ≤ xs.length
  | [], _, _, _ => Nat.zero_le _
  | y :: ys, xs, h, s => by
    rw [List.nodup_cons] at h
    have h1 := nodup_le (ys := ys) (xs := xs.erase y) h.2 fun k hk => (List.mem_erase_of_ne (fun q => by subst q; exact h.1 hk)).mpr (s k (List.mem_cons_of_mem _ hk))
    have hy := s y List.mem_cons_self
    rw [List.length_erase_of_mem hy] at h1
    have := List.length_pos_of_mem hy
    simp only [List.length_cons]
    omega
theorem uset_len {xs : List Int} : (uset xs).length ≤ xs.length := nodup_le ((pw_uset xs).imp fun {a b} h => by omega) fun k hk => mem_uset.mp hk
end Y

/-! ### what is spoiled: a list that is newer than F0 is changed; all that stood in F0 stays, and all else but that list -/
namespace Y
open PySem PySem.Spec PyProof.Rows L2
/-- in F' all of F stands but what is at l -/
def But (l : Addr) (F F' : Hp) : Prop := ∀ b o, F b = some o → b ≠ l → F' b = some o
/-- reps that ask nothing of the heap -/
class Flat {α : Type} (r : Rep α) : Prop where
  fl : ∀ {F F' : Hp} {v : V} {x : α}, r F v x → r F' v x
instance : Flat iR := ⟨id⟩
instance : Flat bR := ⟨id⟩
instance : Flat sR := ⟨id⟩
instance : Flat nR := ⟨id⟩
theorem A2.flat {α : Type} {r : Rep α} [f : Flat r] {F F' : Hp} {vs : List V} {xs : List α} (h : A2 (r F) vs xs) : A2 (r F') vs xs := h.imp fun _ _ q => f.fl q
theorem lNR.keep {β : Type} {s : Rep β} [f : Flat s] {Fa Fb F F' : Hp} {l : Addr} {ox : List V} {vy : V} {ys : List β} (hx : Fb l = some (.lst ox)) (sab : Same Fa Fb) (hy : lNR Fb s F vy ys) (k : But l F F') : lNR Fa s F' vy ys := by
  obtain ⟨a, vs, e, n, h1, h2⟩ := hy
  exact ⟨a, vs, e, Same.no sab n, k _ _ h1 (fun q => by subst q; rw [n] at hx; cases hx), h2.flat⟩
theorem lNR.keep' {α β : Type} {r : Rep α} {s : Rep β} [f : Flat s] {Fa Fb F F' : Hp} {l : Addr} {vx vy : V} {xs : List α} {ys : List β} (hx : lNR Fa r Fb vx xs) (el : vx = .ref l) (sab : Same Fa Fb) (hy : lNR Fb s F vy ys) (k : But l F F') : lNR Fa s F' vy ys := by
  obtain ⟨a, vs, e, n, h1, h2⟩ := hx
  cases (el.symm.trans e)
  exact lNR.keep h1 sab hy k
theorem lNR.keep2 {α β : Type} {r : Rep α} {s : Rep β} [f : Flat s] {Fa Fb F F' : Hp} {l : Addr} {vx vy : V} {xs : List α} {ys : List β} (hx : lNR Fa r Fb vx xs) (el : vx = .ref l) (hy : lNR Fb s F vy ys) (k : But l F F') : lNR Fb s F' vy ys := by
  obtain ⟨a, vs, e, n, h1, h2⟩ := hx
  cases (el.symm.trans e)
  obtain ⟨a2, us, e2, n2, h3, h4⟩ := hy
  exact ⟨a2, us, e2, n2, k _ _ h3 (fun q => by rw [q] at n2; rw [n2] at h1; cases h1), h4.flat⟩
/-- a list of two lists, all of them new since F0 -/
def hp2R (F0 : Hp) {α β : Type} (r : Rep α) (s : Rep β) : Rep (List α × List β) := fun F v x => ∃ l a b vs us, v = .ref l ∧ F0 a = none ∧ F0 b = none ∧ a ≠ l ∧ b ≠ l ∧ F l = some (.lst [.ref a, .ref b]) ∧ F a = some (.lst vs) ∧ F b = some (.lst us) ∧ A2 (r F) vs x.1 ∧ A2 (s F) us x.2
/-- .. of which nothing is known any more but that they are lists, not too long -/
def hw2R (F0 : Hp) (n : Nat) : Rep Unit := fun F v _ => ∃ l a b vs us, v = .ref l ∧ F0 a = none ∧ F0 b = none ∧ a ≠ l ∧ b ≠ l ∧ F l = some (.lst [.ref a, .ref b]) ∧ F a = some (.lst vs) ∧ F b = some (.lst us) ∧ vs.length ≤ n ∧ us.length ≤ n
instance {F0 : Hp} {α β : Type} {r : Rep α} {s : Rep β} [m : Mono r] [n : Mono s] : Mono (hp2R F0 r s) := ⟨fun e ⟨l, a, b, vs, us, h1, h2, h3, h4, h5, h6, h7, h8, h9, h0⟩ => ⟨l, a, b, vs, us, h1, h2, h3, h4, h5, e.lst h6, e.lst h7, e.lst h8, h9.sub e, h0.sub e⟩⟩
instance {F0 : Hp} {n : Nat} : Mono (hw2R F0 n) := ⟨fun e ⟨l, a, b, vs, us, h1, h2, h3, h4, h5, h6, h7, h8, h9, h0⟩ => ⟨l, a, b, vs, us, h1, h2, h3, h4, h5, e.lst h6, e.lst h7, e.lst h8, h9, h0⟩⟩
theorem hp2R.weak {F0 F : Hp} {α β : Type} {r : Rep α} {s : Rep β} {v : V} {x : List α × List β} {n : Nat} (h : hp2R F0 r s F v x) (h1 : x.1.length ≤ n) (h2 : x.2.length ≤ n) : hw2R F0 n F v () :=
  let ⟨l, a, b, vs, us, q1, q2, q3, q4, q5, q6, q7, q8, q9, q0⟩ := h; ⟨l, a, b, vs, us, q1, q2, q3, q4, q5, q6, q7, q8, by rw [q9.len]; exact h1, by rw [q0.len]; exact h2⟩
theorem hp2R.h {F0 F : Hp} {α β : Type} {r : Rep α} {s : Rep β} {v : V} {x : List α × List β} (h : hp2R F0 r s F v x) : h2R (lR r) (lR s) F v x :=
  let ⟨l, a, b, vs, us, q1, q2, q3, q4, q5, q6, q7, q8, q9, q0⟩ := h; ⟨l, .ref a, .ref b, q1, q6, ⟨a, vs, rfl, q7, q9⟩, ⟨b, us, rfl, q8, q0⟩⟩
/-- a list of two, of whatever, new since F0: a tuple's parts -/
def wR (F0 : Hp) (n : Nat) : Rep Unit := fun F v _ => ∃ a vs, v = .ref a ∧ F0 a = none ∧ F a = some (.lst vs) ∧ vs.length ≤ n
instance {F0 : Hp} {n : Nat} : Mono (wR F0 n) := ⟨fun e ⟨a, vs, h1, h2, h3, h4⟩ => ⟨a, vs, h1, h2, e.lst h3, h4⟩⟩
theorem lNR.weak {F0 F : Hp} {α : Type} {r : Rep α} {v : V} {xs : List α} {n : Nat} (h : lNR F0 r F v xs) (h1 : xs.length ≤ n) : wR F0 n F v () := let ⟨a, vs, e, q1, q2, q3⟩ := h; ⟨a, vs, e, q1, q2, by rw [q3.len]; exact h1⟩
theorem wR.spoil {F0 F F' : Hp} {n m : Nat} {v : V} {l : Addr} {vs : List V} (h : wR F0 n F v ()) (k : But l F F') (hl : F' l = some (.lst vs)) (h1 : n ≤ m) (h2 : vs.length ≤ m) : wR F0 m F' v () := by
  obtain ⟨a, us, e, q1, q2, q3⟩ := h
  by_cases z : a = l
  · subst z; exact ⟨a, vs, e, q1, hl, h2⟩
  · exact ⟨a, us, e, q1, k _ _ q2 z, Nat.le_trans q3 h1⟩
theorem hw2R.spoil {F0 F F' : Hp} {n : Nat} {v : V} {a b l : Addr} {vs us zs : List V} (e : v = .ref l) (q1 : F0 a = none) (q2 : F0 b = none) (q3 : a ≠ l) (q4 : b ≠ l) (q5 : F l = some (.lst [.ref a, .ref b])) (q6 : F a = some (.lst vs)) (q7 : F b = some (.lst us)) (q8 : vs.length ≤ n) (q9 : us.length ≤ n)
    {c : Addr} (hc : c = a ∨ c = b) (k : But c F F') (hl : F' c = some (.lst zs)) (hz : zs.length ≤ n + 1) : hw2R F0 (n + 1) F' v () := by
  have ncl : l ≠ c := by rcases hc with rfl | rfl <;> exact fun z => by subst z; first | exact q3 rfl | exact q4 rfl
  refine ⟨l, a, b, if a = c then zs else vs, if b = c then zs else us, e, q1, q2, q3, q4, k _ _ q5 ncl, ?_, ?_, ?_, ?_⟩
  · by_cases z : a = c
    · rw [if_pos z, z]; exact hl
    · rw [if_neg z]; exact k _ _ q6 z
  · by_cases z : b = c
    · rw [if_pos z, z]; exact hl
    · rw [if_neg z]; exact k _ _ q7 z
  · split <;> omega
  · split <;> omega
section
variable {X : Cx} {σ : L2.St} {F M H : Hp} {a b c e o : Expr} {pos p p2 p3 p4 apos cpos : Pos} {α β γ δ : Type} {r : Rep α} {r1 : Rep α} {r2 : Rep β} {r3 : Rep γ} {s : Rep β} {t : Rep δ} {n : Str} {rest : List Stmt} {D : Ends}
theorem ev_hp2 {xs : List α} {ys : List β} [m : Mono r] [m2 : Mono s] (ha : EvN X a σ F M r xs) (hb : EvN X b σ F M s ys) (hs : starEach [a, b] X.env = (false, eval a X.env) :: starEach [b] X.env := by rfl) (hs2 : starEach [b] X.env = (false, eval b X.env) :: starEach [] X.env := by rfl) :
    EvF X (.List [a, b] pos) σ F M (hp2R F r s) (xs, ys) := fun F1 H1 s1 w Q q => we_of (pe_lst (pa_w [a, b])) (wa_of (pa_cons (pe_w a) (pa_w [b]) hs) (ha F1 H1 s1 w _ fun F2 H2 l1 vs s2 w2 n1 n2 hh h2 =>
  have w2' := w2.keepF n1 n2 hh
  have s2' : Same F2 (upd F2 l1 (.lst vs)) := same_new n1
  wa_of (pa_cons (pe_w b) (pa_w []) hs2) (hb _ H2 ((s1.trans s2).trans s2') w2' _ fun F3 H3 l2 us s3 w3 k1 k2 hh' h3 => wa_of pa_nil (by
    have w3' := w3.keepF k1 k2 hh'
    have s3' : Same F3 (upd F3 l2 (.lst us)) := same_new k1
    refine ⟨small_of (by simp), fun p hp => ?_⟩
    have s4 : Same (upd F3 l2 (.lst us)) (upd (upd F3 l2 (.lst us)) p (.lst [.ref l1, .ref l2])) := same_new (w3'.noF hp)
    have e1 : F3 l1 = some (.lst vs) := s3 _ _ upd_same
    refine q _ _ _ (((s2.trans s2').trans s3).trans (s3'.trans s4)) (w3'.newF hp) ⟨p, l1, l2, vs, us, rfl, Same.no (s1.trans s2) n1, Same.no (s1.trans (s2.trans (s2'.trans s3))) k1, ?_, ?_, upd_same, s4 _ _ (s3' _ _ e1), s4 _ _ upd_same, h2.up (s2'.trans (s3.trans (s3'.trans s4))), h3.up (s3'.trans s4)⟩
    · exact fun z => by subst z; have := w3'.noF hp; rw [s3' _ _ e1] at this; cases this
    · exact fun z => by subst z; have := w3'.noF hp; rw [upd_same] at this; cases this))))
theorem Ev.hp {F0 : Hp} {x : List α × List β} (h : EvF X e σ F M (hp2R F0 r s) x) : EvF X e σ F M (h2R (lR r) (lR s)) x := h.imp fun _ _ q => q.h
/-- x.append(e): x evaluates to the list at l -/
theorem ss_spoil {F0 : Hp} {x : δ} {l : Addr} {vs : List V} (ho : Ev X o σ F M fun _ u => u = .ref l) (hl : F l = some (.lst vs)) (h0 : F0 l = none) (he : EvF X e σ F M t x) (s0 : Same F0 F) (w : Own F M H) (hz : vs.length < 1000000)
    (k : ∀ F' H2 v, Same F0 F' → Own F' M H2 → F' l = some (.lst (vs ++ [v])) → But l F F' → WSs X rest D σ H2)
    (hbase : attributeBase o "append" X.env (eval o X.env) = eval o X.env := by rfl)
    (hfew : ((backTo cpos (starEach [e] X.env)).all (fun x => !x.1) && (backToKw cpos (keywordEach [] X.env)).all (fun x => x.1.isSome)
      && decide ([e].length + ([] : List Keyword).length + (if ([] : List Keyword).isEmpty then 0 else 1) < 30)) = true := by rfl)
    (hline : (apos.endLine == cpos.line) = true := by rfl) (hst : starEach [e] X.env = (false, eval e X.env) :: starEach [] X.env := by rfl) (hplain : (backTo cpos (starEach [] X.env)).any (·.1) = false := by rfl)
    (hsw : swapsWith (.Call (.Attribute o "append" apos) [e] [] cpos) none pos.line X.env = pure false := by rfl) :
    WSs X (.Expr (.Call (.Attribute o "append" apos) [e] [] cpos) pos :: rest) D σ H :=
  wss_cons (ws_of (ps_expr (pe_bm PySem.F.plainAttrs_list PySem.F.slot_list_append PySem.F.type_list_append mt_append (pe_w o) (pa_cons (pe_w e) pa_nil hst) hbase hfew hline hst hplain) hsw)
    (ho F H (Same.refl _) w _ fun F2 H2 v s2 w2 e1 => by
      subst e1
      have hl2 := s2 _ _ hl
      refine ⟨.inl ⟨rfl, _, SqL.of (w2.f _ _ hl2)⟩, he F2 H2 s2 w2 _ fun F3 H3 v3 s3 w3 hv3 => ⟨l, vs, v3, rfl, rfl, w3.f _ _ (s3 _ _ hl2), Nat.lt_of_lt_of_le hz (by decide), ?_⟩⟩
      have s23 := s2.trans s3
      have hM : M l = none := by
        cases q : M l with
        | none => rfl
        | some x => have := w3.d l x q; rw [s3 _ _ hl2] at this; cases this
      refine k (upd F3 l (.lst (vs ++ [v3]))) _ v3 (fun b o hb => ?_) ⟨same_upd w3.f, same_in w3.m hM, fun b o hb => ?_, w3.t⟩ upd_same fun b o hb hne => ?_
      · rw [upd_ne (ne_of_none hb h0)]; exact s23 _ _ (s0 _ _ hb)
      · rw [upd_ne (ne_of_none hb hM)]; exact w3.d b o hb
      · rw [upd_ne hne]; exact s23 _ _ hb))
/-- x.clear() -/
theorem ss_spoilC {F0 : Hp} {l : Addr} {vs : List V} (ho : Ev X o σ F M fun _ u => u = .ref l) (hl : F l = some (.lst vs)) (h0 : F0 l = none) (s0 : Same F0 F) (w : Own F M H)
    (k : ∀ F' H2, Same F0 F' → Own F' M H2 → F' l = some (.lst []) → But l F F' → WSs X rest D σ H2)
    (hbase : attributeBase o "clear" X.env (eval o X.env) = eval o X.env := by rfl)
    (hline : (apos.endLine == cpos.line) = true := by rfl)
    (hsw : swapsWith (.Call (.Attribute o "clear" apos) [] [] cpos) none pos.line X.env = pure false := by rfl) :
    WSs X (.Expr (.Call (.Attribute o "clear" apos) [] [] cpos) pos :: rest) D σ H :=
  wss_cons (ws_of (ps_expr (pe_bm0 PySem.F.plainAttrs_list PySem.F.slot_list_clear PySem.F.type_list_clear mt_clear (pe_w o) hbase hline) hsw)
    (ho F H (Same.refl _) w _ fun F2 H2 v s2 w2 e1 => by
      subst e1
      have hl2 := s2 _ _ hl
      refine ⟨.inl ⟨rfl, _, SqL.of (w2.f _ _ hl2)⟩, l, vs, rfl, rfl, w2.f _ _ hl2, ?_⟩
      have hM : M l = none := by
        cases q : M l with
        | none => rfl
        | some x => have := w2.d l x q; rw [hl2] at this; cases this
      refine k (upd F2 l (.lst [])) _ (fun b o hb => ?_) ⟨same_upd w2.f, same_in w2.m hM, fun b o hb => ?_, w2.t⟩ upd_same fun b o hb hne => ?_
      · rw [upd_ne (ne_of_none hb h0)]; exact s2 _ _ (s0 _ _ hb)
      · rw [upd_ne (ne_of_none hb hM)]; exact w2.d b o hb
      · rw [upd_ne hne]; exact s2 _ _ hb))
/-- x.reverse() -/
theorem ss_spoilR {F0 : Hp} {l : Addr} {vs : List V} (ho : Ev X o σ F M fun _ u => u = .ref l) (hl : F l = some (.lst vs)) (h0 : F0 l = none) (s0 : Same F0 F) (w : Own F M H)
    (k : ∀ F' H2, Same F0 F' → Own F' M H2 → F' l = some (.lst vs.reverse) → But l F F' → WSs X rest D σ H2)
    (hbase : attributeBase o "reverse" X.env (eval o X.env) = eval o X.env := by rfl)
    (hline : (apos.endLine == cpos.line) = true := by rfl)
    (hsw : swapsWith (.Call (.Attribute o "reverse" apos) [] [] cpos) none pos.line X.env = pure false := by rfl) :
    WSs X (.Expr (.Call (.Attribute o "reverse" apos) [] [] cpos) pos :: rest) D σ H :=
  wss_cons (ws_of (ps_expr (pe_bm0 PySem.F.plainAttrs_list PySem.F.slot_list_reverse PySem.F.type_list_reverse mt_reverse (pe_w o) hbase hline) hsw)
    (ho F H (Same.refl _) w _ fun F2 H2 v s2 w2 e1 => by
      subst e1
      have hl2 := s2 _ _ hl
      refine ⟨.inl ⟨rfl, _, SqL.of (w2.f _ _ hl2)⟩, l, vs, rfl, rfl, w2.f _ _ hl2, ?_⟩
      have hM : M l = none := by
        cases q : M l with
        | none => rfl
        | some x => have := w2.d l x q; rw [hl2] at this; cases this
      refine k (upd F2 l (.lst vs.reverse)) _ (fun b o hb => ?_) ⟨same_upd w2.f, same_in w2.m hM, fun b o hb => ?_, w2.t⟩ upd_same fun b o hb hne => ?_
      · rw [upd_ne (ne_of_none hb h0)]; exact s2 _ _ (s0 _ _ hb)
      · rw [upd_ne (ne_of_none hb hM)]; exact w2.d b o hb
      · rw [upd_ne hne]; exact s2 _ _ hb))
/-- x[0], x[1] of a list of two at l -/
theorem ev_at0 {l : Addr} {u z : V} {j} {q1} (ha : Ev X a σ F M fun _ u => u = .ref l) (hl : F l = some (.lst [u, z])) (hs : PlainIx (.Constant (.int 0) j q1) := by exact fun _ _ => rfl) : Ev X (.Subscript a (.Constant (.int 0) j q1) pos) σ F M fun _ v => v = u :=
  fun F1 H1 s w Q q => we_of (pe_ix ix_list (pe_w a) pe_int hs) (ha F1 H1 s w _ fun F2 H2 v s2 w2 e => ⟨l, _, 0, u, e, rfl, SqL.of (w2.f _ _ (s2 _ _ (s _ _ hl))), rfl, q F2 H2 _ s2 w2 rfl⟩)
theorem ev_at1 {l : Addr} {u z : V} {j} {q1} (ha : Ev X a σ F M fun _ u => u = .ref l) (hl : F l = some (.lst [u, z])) (hs : PlainIx (.Constant (.int 1) j q1) := by exact fun _ _ => rfl) : Ev X (.Subscript a (.Constant (.int 1) j q1) pos) σ F M fun _ v => v = z :=
  fun F1 H1 s w Q q => we_of (pe_ix ix_list (pe_w a) pe_int hs) (ha F1 H1 s w _ fun F2 H2 v s2 w2 e => ⟨l, _, 1, z, e, rfl, SqL.of (w2.f _ _ (s2 _ _ (s _ _ hl))), rfl, q F2 H2 _ s2 w2 rfl⟩)
theorem ev_tat0 {l : Addr} {u z : V} {j} {q1} (ha : Ev X a σ F M fun _ u => u = .ref l) (hl : F l = some (.tup [u, z])) (hs : PlainIx (.Constant (.int 0) j q1) := by exact fun _ _ => rfl) : Ev X (.Subscript a (.Constant (.int 0) j q1) pos) σ F M fun _ v => v = u :=
  fun F1 H1 s w Q q => we_of (pe_ix ix_tup (pe_w a) pe_int hs) (ha F1 H1 s w _ fun F2 H2 v s2 w2 e => ⟨l, _, 0, u, e, rfl, SqT.of (w2.f _ _ (s2 _ _ (s _ _ hl))), rfl, q F2 H2 _ s2 w2 rfl⟩)
theorem ev_tat1 {l : Addr} {u z : V} {j} {q1} (ha : Ev X a σ F M fun _ u => u = .ref l) (hl : F l = some (.tup [u, z])) (hs : PlainIx (.Constant (.int 1) j q1) := by exact fun _ _ => rfl) : Ev X (.Subscript a (.Constant (.int 1) j q1) pos) σ F M fun _ v => v = z :=
  fun F1 H1 s w Q q => we_of (pe_ix ix_tup (pe_w a) pe_int hs) (ha F1 H1 s w _ fun F2 H2 v s2 w2 e => ⟨l, _, 1, z, e, rfl, SqT.of (w2.f _ _ (s2 _ _ (s _ _ hl))), rfl, q F2 H2 _ s2 w2 rfl⟩)
/-- t[:2] of a tuple of three -/
theorem ev_t3cut2 {x : α × β × γ} {q1} {k} [m : Mono r1] [m2 : Mono r2] (ha : EvF X a σ F M (t3R r1 r2 r3) x) : EvF X (.Subscript a (.Slice none (some (.Constant (.int 2) k q1)) none p2) pos) σ F M (t2R r1 r2) (x.1, x.2.1) :=
  fun F1 H1 s w Q q => we_of (pe_slice sl_tup (pe_w a) po_none (po_some pe_int)) (ha F1 H1 s w _ fun F2 H2 v s2 w2 ⟨l, u, z, t, e, hl, h1, h2, h3⟩ =>
    ⟨2, rfl, l, [u, z, t], e, SqT.of (w2.f _ _ hl), (show ¬ (HT.sIx 3 0 none = 0 ∧ HT.sIx 3 3 (some 2) = 3) by decide), fun p hp => q _ _ _ (s2.trans (same_new (w2.noF hp))) (w2.newF hp) ⟨p, u, z, rfl, upd_same, Mono.mono (same_new (w2.noF hp)) h1, Mono.mono (same_new (w2.noF hp)) h2⟩⟩)
end
end Y

/-! ### what raises: defs that may let an exception out, try .. except C, raise C(..) -/
namespace Y
open PySem PySem.Spec PyProof.Rows L2
/-- a def's promise: what it gives stands for good; or what it lets out: the class, the exception's dict -/
def FSpX {α : Type} (A : AR α) (pre : α → Prop) (R : α → Hp → V → Prop) (Rx : α → Hp → Value → Option Addr → Prop) : Sp := fun vs H Q E => ∃ F M x, A F vs x ∧ pre x ∧ Own F M H ∧
  (∀ F2 H2 v, Same F F2 → Own F2 M H2 → R x F2 v → Q v H2) ∧ ∀ F2 H2 c d, Same F F2 → Own F2 M H2 → Rx x F2 c d → E c d H2
def FSpNX {α β : Type} (A : AR α) (pre : α → Prop) (r : Rep β) (R : α → List β → Prop) (Rx : α → Hp → Value → Option Addr → Prop) : Sp := fun vs H Q E => ∃ F M x, A F vs x ∧ pre x ∧ Own F M H ∧
  (∀ F2 H2 l vs ys, Same F F2 → Own F2 M H2 → F2 l = none → M l = none → H2 l = some (.lst vs) → A2 (r F2) vs ys → R x ys → Q (.ref l) H2) ∧ ∀ F2 H2 c d, Same F F2 → Own F2 M H2 → Rx x F2 c d → E c d H2
section
variable {X : Cx} {σ : L2.St} {F M H : Hp} {a b c e : Expr} {es : List Expr} {pos p p2 np : Pos} {α β γ δ : Type} {r : Rep α} {s : Rep β} {n : Str} {k : Nat} {f : Addr} {fd : FuncData} {ps : List Str} {rest : List Stmt} {D : Ends}
theorem ev_callX {W : WX} (tk : Takes X W) {A : AR α} {pre : α → Prop} {R : α → Hp → V → Prop} {Rx : α → Hp → Value → Option Addr → Prop} {x : α} (G : FnOk X.prog X.w X.K X.mg X.base (L2.CX X.prog X.w) k f fd ps (FSpX A pre R Rx)) (hr : Room k X.A) (hm : X.mg n = some (.ref f)) (hk : PySem.W.keepIn X.K (.ref f) = true) (hb : Binds X.K fd ps [])
    (ha : EvA X (e :: es) σ F M fun F vs => A F vs x) (hp : pre x) (hx : ∀ F2 H2 c d, Same F F2 → Own F2 M H2 → Rx x F2 c d → W c d σ H2)
    (hg : Gl X n := by rfl) (hdb : (n == ("__debug__" : Str)) = false := by decide) (he : starEach (e :: es) X.env = (false, eval e X.env) :: starEach es X.env := by rfl) (hpl : (backTo pos (starEach es X.env)).any (·.1) = false := by rfl) :
    Ev X (.Call (.Name n p) (e :: es) [] pos) σ F M (R x) :=
  fun F1 H1 s w Q q => we_of (pe_callS G hr hg hm hk hb (fun σ => passAt tk σ) (pa_w (e :: es)) hdb he hpl) (ha F1 H1 s w _ fun F2 H2 vs s2 w2 hv =>
    ⟨F2, M, x, hv, hp, w2, fun F3 H3 v s3 w3 h => q F3 H3 v (s2.trans s3) w3 h, fun F3 H3 c d s3 w3 h => hx F3 H3 c d ((s.trans s2).trans s3) w3 h⟩)
theorem ev_callNX {W : WX} (tk : Takes X W) {A : AR α} {pre : α → Prop} {R : α → List β → Prop} {Rx : α → Hp → Value → Option Addr → Prop} {x : α} (G : FnOk X.prog X.w X.K X.mg X.base (L2.CX X.prog X.w) k f fd ps (FSpNX A pre s R Rx)) (hr : Room k X.A) (hm : X.mg n = some (.ref f)) (hk : PySem.W.keepIn X.K (.ref f) = true) (hb : Binds X.K fd ps [])
    (ha : EvA X (e :: es) σ F M fun F vs => A F vs x) (hp : pre x) (hx : ∀ F2 H2 c d, Same F F2 → Own F2 M H2 → Rx x F2 c d → W c d σ H2)
    (hg : Gl X n := by rfl) (hdb : (n == ("__debug__" : Str)) = false := by decide) (he : starEach (e :: es) X.env = (false, eval e X.env) :: starEach es X.env := by rfl) (hpl : (backTo pos (starEach es X.env)).any (·.1) = false := by rfl) :
    EvNP X (.Call (.Name n p) (e :: es) [] pos) σ F M s (R x) :=
  fun F1 H1 s1 w Q q => we_of (pe_callS G hr hg hm hk hb (fun σ => passAt tk σ) (pa_w (e :: es)) hdb he hpl) (ha F1 H1 s1 w _ fun F2 H2 vs s2 w2 hv =>
    ⟨F2, M, x, hv, hp, w2, fun F3 H3 l vs ys s3 w3 h1 h2 h3 h4 h5 => q F3 H3 l vs ys (s2.trans s3) w3 h1 h2 h3 h4 h5, fun F3 H3 c d s3 w3 h => hx F3 H3 c d ((s1.trans s2).trans s3) w3 h⟩)
/-- try: body except x: suite, no name -/
theorem ss_try {x : Str} {cv : Value} {Wout : WX} {body suite : List Stmt} {b₀ : Stmt} {pos' : Pos} (hs : X.stack = X.env :: X.outer) (hf : X.env.frame = some X.env.locals) (hc : Names X x cv) (tk : Takes X Wout)
    (hb : ∀ (W : WX) (pn : List (Addr × Obj)) (xe : Value → Shared → Prop), Takes (X.tr pn xe) W → PassesOwn (model X.prog X.w) X.A X.env xe →
      (∀ cls d σ' H', (∃ b, PySem.W.exmOne X.K cls cv = some b ∧ (b = true → ∀ a oe pn, H' a = none → Zc cls d oe → (∃ vs, oe.data = .fields vs) → WSs (X.suite a ((a, oe) :: pn)) (b₀ :: suite) (thn X rest D) σ' H') ∧ (b = false → Wout cls d σ' H')) → W cls d σ' H') →
      WSs (X.tr pn xe) body (thn X rest D) σ H) :
    WSs X (.Try body [.ExceptHandler (some (.Name x np)) none (b₀ :: suite) pos'] [] [] pos :: rest) D σ H :=
  wss_cons (ws_of (ps_try_only (tb := fun W D' σ' H' => ∀ pn xe, Takes (X.tr pn xe) W → PassesOwn (model X.prog X.w) X.A X.env xe → WSs (X.tr pn xe) body D' σ' H')
    (ts := fun a cls d D' σ' H' => ∀ oe pn, Zc cls d oe → (∃ vs, oe.data = .fields vs) → WSs (X.suite a ((a, oe) :: pn)) (b₀ :: suite) D' σ' H') hs hf hc tk
    (fun W pn xe t po => ⟨fun pins s σ' H' D' I h => h pn xe t po pins s I⟩) (fun a oe cls d pn hz hv => ⟨fun pins s σ' H' D' I h => h oe pn hz hv pins s I⟩))
    fun pn xe t po => hb _ pn xe t po fun cls d σ' H' ⟨b, h1, h2, h3⟩ => ⟨b, h1, fun q a n oe pn hz hv => h2 q a oe pn n hz hv, h3⟩)
/-- raise C(..) -/
theorem ss_raise {W : WX} {t : L2.St → Hp → XK → Prop} (hc : X.calm = true) (tk : Takes X W) (hm : PMk X e t) (h : t σ H fun cls d H' => W cls d σ H') : WSs X (.Raise (some e) none pos :: rest) D σ H :=
  wss_cons (ws_of (ps_raise hc tk hm) h)
/-- a class that was made of another one has no __init__ of its own: B.__init__(self, ..), B that class -/
structure BaseC (K : PySem.W.Frag) (B : Addr) (mc : Value) : Prop where
  sp : PySem.W.specialIn K (.ref B) "__getattribute__" = some (some (.builtin "type.__getattribute__"))
  rd : PySem.W.readsIn K B mc = true
  fd : PySem.W.findCls K (.ref B) mc "__init__" = some (.val (.builtin "ValueError.__init__"))
theorem pe_binit {B : Addr} {mc : Value} {x : Str} {ta : TA} {p1 : Pos} {pl : Sem Bool} (T : BaseC X.K B mc) (hg : Gl X x) (hm : X.mg x = some (.ref B)) (ha : PA X (e :: es) ta) (hdb : (x == ("__debug__" : Str)) = false := by decide)
    (hc : eval (.Call (.Attribute (.Name x p1) "__init__" p2) (e :: es) [] pos) X.env = (do
      let ov ← eval (.Name x p1) X.env
      standAt p2.atName
      let (f, first) ← holding [ov] (getMethod ov "__init__" pl)
      callWith pos f first (backTo pos (starEach (e :: es) X.env)) (backToKw pos (keywordEach [] X.env))) := by rfl)
    (he : starEach (e :: es) X.env = (false, eval e X.env) :: starEach es X.env := by rfl) (hpl : (backTo pos (starEach es X.env)).any (·.1) = false := by rfl) :
    PE X (.Call (.Attribute (.Name x p1) "__init__" p2) (e :: es) [] pos) (tVeI X.K ta) := by
  refine ⟨fun pins s σ H Q I h => ?_⟩
  refine PySem.W.methodCall_KW (ld_glob I hg hm ?_ hdb) hc
  refine PySem.W.method_cls I.kIn T.sp (PySem.W.cls_value I.kIn T.rd T.fd rfl ?_)
  show wpAny _ _ (callWith pos (Value.builtin "ValueError.__init__") [] (backTo pos (starEach (e :: es) X.env)) []) _ _ _
  refine PyProof.Rows.callWith_method1 (L2.thn (ha.run pos pins _ σ H _ (I.tok _) h) fun us s1 ⟨vs, H1, I1, r1, a, C, ws, ev, hl, T, ea, q⟩ => ?_) he hpl
  subst ev
  cases r1 with
  | @cons _ u0 _ ur ra rw' =>
    obtain rfl : u0 = Value.ref a := ra
    have hlen : ur.length ≤ sizeLine := by
      rw [← Paired.length rw', sizeLine_eq]
      omega
    exact oinit_ok T I1 ea hlen fun s' J => ⟨.non, H1, J, rfl, q⟩
end
section
variable {P : Program} {w : World} {K : PySem.W.Frag} {mg : Str → Option Value} {base : Heap}
/-- a def that may raise holds its promise -/
theorem ok_defX {x qual : Str} {st : Stmt} {f : Addr} {fd : FuncData} {N ps : List Str} {k : Nat} {sp : Sp} (F : Fun K x qual st f fd) (S : FnScope N ps (defScope st)) (len : ∀ vs H Q E, sp vs H Q E → vs.length = ps.length)
    (hbody : ∀ (cdv : Value) (A : Around) (outer : List Env) (s : Shared) (H : Hp) (vs : List V) (Q : VK) (E : XK), Room k (A.deeper (envOfC qual (defScope st) s.heap.objs.size f cdv)) → sp vs H Q E →
      Takes (cxOf (L2.CX P w) P w K mg base N qual (defScope st) f cdv A outer s H E) (fun cls d _ H => E cls d H) →
      WSs (cxOf (L2.CX P w) P w K mg base N qual (defScope st) f cdv A outer s H E) (defBody st) { nx := fun _ H' => Q .non H', rt := Q } (start N vs) H) : FnOk P w K mg base (L2.CX P w) (k + 1) f fd ps sp :=
  F.okX S len fun cdv A outer s H vs Q E hr h => ⟨_, pss_w _, hbody cdv A outer s H vs Q E hr h (takes_of rfl rfl rfl rfl)⟩
end
end Y

/-! ### range downwards, while, classes of exceptions with fields -/
namespace Y
open PySem PySem.Spec PyProof.Rows L2
/-- i, i - 1, .., so many -/
def rngD (i : Int) (n : Nat) : List Int := (List.range n).map fun (k : Nat) => i - k
theorem rngD_len {i : Int} {n : Nat} : (rngD i n).length = n := by unfold rngD; simp
theorem rngD_get {lo : Int} {n i : Nat} : (rngD lo n)[i]? = if i < n then some (lo - (i : Int)) else none := by
  unfold rngD
  rw [List.getElem?_map]
  by_cases h : i < n
  · rw [if_pos h, List.getElem?_range h]; rfl
  · rw [if_neg h, List.getElem?_eq_none (by simpa using h)]; rfl
theorem rngD_at {lo : Int} {n i : Nat} {k : Int} (h : (rngD lo n)[i]? = some k) : i < n ∧ k = lo - (i : Int) := by
  rw [rngD_get] at h
  by_cases hh : i < n
  · rw [if_pos hh] at h; cases h; exact ⟨hh, rfl⟩
  · rw [if_neg hh] at h; cases h
theorem yields_d {F : Hp} {lo : Int} {n : Nat} : Yields F (Itc lo (-1) n) iR (rngD lo n) := fun i F3 M3 H3 s3 w3 =>
  ⟨fun hi => by rw [rngD_len] at hi; exact hi, fun x hx => by
    rw [rngD_get] at hx
    by_cases h : i < n
    · rw [if_pos h] at hx
      cases hx
      refine ⟨h, fun v H' hy => ?_⟩
      obtain ⟨rfl, rfl⟩ := hy
      exact ⟨F3, Same.refl _, w3, by show V.int _ = V.int _; congr 1; omega⟩
    · rw [if_neg h] at hx; cases hx⟩
section
variable {X : Cx} {σ : L2.St} {F M H : Hp} {a b c e : Expr} {es : List Expr} {pos p p2 np : Pos} {α β γ δ : Type} {r : Rep α} {s : Rep β} {n : Str} {k : Nat} {f : Addr} {fd : FuncData} {ps : List Str} {rest : List Stmt} {D : Ends}
/-- range(i, j, -1) -/
theorem ei_range3d {tg : Expr} {i j : Int} {q1 q2 : Pos} {kk} (hm : X.mg "range" = none) (ha : EvF X a σ F M iR i) (hb : EvF X b σ F M iR j) (hj : -(2 ^ 62) ≤ i ∧ i < 2 ^ 62 ∧ -(2 ^ 62) ≤ j ∧ j < 2 ^ 62) (hg : Gl X "range" := by rfl)
    (hs : starEach [a, b, .UnaryOp .USub (.Constant (.int 1) kk q1) q2] X.env = (false, eval a X.env) :: starEach [b, .UnaryOp .USub (.Constant (.int 1) kk q1) q2] X.env := by rfl) (hs2 : starEach [b, .UnaryOp .USub (.Constant (.int 1) kk q1) q2] X.env = (false, eval b X.env) :: starEach [.UnaryOp .USub (.Constant (.int 1) kk q1) q2] X.env := by rfl)
    (hs3 : starEach [.UnaryOp .USub (.Constant (.int 1) kk q1) q2] X.env = (false, eval (.UnaryOp .USub (.Constant (.int 1) kk q1) q2) X.env) :: starEach [] X.env := by rfl) (hpl : (backTo pos (starEach [b, .UnaryOp .USub (.Constant (.int 1) kk q1) q2] X.env)).any (·.1) = false := by rfl) :
    EvI X tg (.Call (.Name "range" p) [a, b, .UnaryOp .USub (.Constant (.int 1) kk q1) q2] [] pos) σ F M iR (rngD i (i - j).toNat) :=
  fun F1 H1 s w R q => wi_of (pi_range3 hg hm (pa_cons (pe_w a) (pa_cons (pe_w b) (pa_cons (pe_w _) pa_nil hs3) hs2) hs) hs hpl) (ha F1 H1 s w _ fun F2 H2 v s2 w2 hv => hb F2 H2 (s.trans s2) w2 _ fun F3 H3 u s3 w3 hu =>
    ev_neg ev_int F3 H3 ((s.trans s2).trans s3) w3 _ fun F4 H4 z s4 w4 hz =>
    ⟨i, j, -1, _, by rw [show v = V.int i from hv, show u = V.int j from hu, show z = V.int (-1) from hz], RgC.neg hj.1 hj.2.1 hj.2.2.1 hj.2.2.2, q F4 H4 _ ((s2.trans s3).trans s4) w4 yields_d⟩)
/-- while c: body; I m tells the state, m what falls -/
theorem ss_while {body : List Stmt} (I : Nat → Hp → Hp → L2.St → Prop) (m0 : Nat) (w : Own F M H) (h0 : I m0 F M σ)
    (hs : ∀ m F1 M1 H1 σ1, Same F F1 → Own F1 M1 H1 → I m F1 M1 σ1 → ∃ kb : Bool, Bx X c σ1 F1 M1 kb ∧
      (kb = true → ∀ H2, Own F1 M1 H2 → WSs X body (lpe X rest D fun σ' H' => ∃ F2 M2, Same F1 F2 ∧ Own F2 M2 H' ∧ ∃ m', m' < m ∧ I m' F2 M2 σ') σ1 H2) ∧ (kb = false → ∀ H2, Own F1 M1 H2 → WSs X rest D σ1 H2))
    (hp : PassesOwn (model X.prog X.w) X.A X.env X.xe) : WSs X (.While c body [] pos :: rest) D σ H := by
  refine wss_cons (ws_of (ps_while hp (pt_w c) (pss_w body)) ⟨fun m σ' H' => ∃ F1 M1, Same F F1 ∧ Own F1 M1 H' ∧ I m F1 M1 σ', ⟨m0, F, M, Same.refl _, w, h0⟩, ?_⟩)
  rintro m σ1 H1 ⟨F1, M1, s1, w1, hI⟩
  obtain ⟨kb, hc, ht, hf⟩ := hs m F1 M1 H1 σ1 s1 w1 hI
  refine hc.2 F1 H1 (Same.refl _) w1 _ fun F2 H2 s2 w2 => ?_
  have w2' := w2.lessF s2
  cases kb with
  | true =>
    rw [if_pos rfl]
    refine ⟨fun σ' H' => ∃ F2 M2, Same F1 F2 ∧ Own F2 M2 H' ∧ ∃ m', m' < m ∧ I m' F2 M2 σ', ?_, ht rfl H2 w2'⟩
    rintro σ' H' ⟨F3, M3, s3, w3, m', hlt, hI'⟩
    exact ⟨m', hlt, F3, M3, s1.trans s3, w3, hI'⟩
  | false =>
    rw [if_neg Bool.false_ne_true]
    exact hf rfl H2 w2'
/-- what an own __init__ that stores its arguments leaves of the exception at a -/
def spInit (K : PySem.W.Frag) (C : Addr) (fs : List Str) : Sp := fun vs H Q _ => ∃ a ws, vs = .ref a :: ws ∧ ws.length = fs.length ∧ OexC K C ∧ H a = some (exo a C none) ∧
  ∀ H2 d, H d = none → d ≠ a → H2 a = some (exo a C (some d)) → H2 d = some (exd d (fs.zip ws).reverse) → (∀ b, b ≠ a → b ≠ d → H2 b = H b) → Q .non H2
theorem ss_raiseI {W : WX} {x : Str} {C fI : Addr} {fs : List Str} {Φ : Hp → List V → Prop} (tk : Takes X W) (T : OexC X.K C) (iC : PySem.W.findIn X.K (.ref C) "__init__" = some (some (.ref fI))) (tI : PySem.W.typeIn X.K (.ref fI) = some (.type "function"))
    (G : FnOk X.prog X.w X.K X.mg X.base CX0 k fI fd ps (spInit X.K C fs)) (hr : Room (k + 1) X.A) (hb : Binds X.K fd ps []) (gC : X.mg x = some (.ref C)) (ha : EvA X (e :: es) σ F M Φ) (w : Own F M H) (hlen : ∀ F vs, Φ F vs → vs.length = fs.length) (hfs : fs.length ≤ 20)
    (h : ∀ F2 F3 H2 d vs, Same F F2 → Same F2 F3 → Own F3 M H2 → Φ F2 vs → F3 d = some (.xd (fs.zip vs).reverse) → W (.ref C) (some d) σ H2)
    (hg : Gl X x := by rfl) (hc : X.calm = true := by rfl) (hdb : (x == ("__debug__" : Str)) = false := by decide) (he : starEach (e :: es) X.env = (false, eval e X.env) :: starEach es X.env := by rfl) (hpl : (backTo pos (starEach es X.env)).any (·.1) = false := by rfl) :
    WSs X (.Raise (some (.Call (.Name x p) (e :: es) [] pos)) none p2 :: rest) D σ H :=
  ss_raise hc tk (pmk_oex T iC tI G hr hb .nil pass0 hg gC (pa_w (e :: es)) hdb he hpl) (ha F H (Same.refl _) w _ fun F2 H2 vs s2 w2 hv => by
    have hl := hlen F2 vs hv
    refine ⟨by omega, fun a na => ⟨a, vs, by rw [List.append_nil], hl, T, upd_same, fun H3 d hd hda ea ed hrest => ⟨rfl, d, _, ea, ed, ?_, ?_⟩⟩⟩
    · rw [upd_ne hda] at hd; exact hd
    · rw [upd_ne hda] at hd
      have e : upd (L2.del H3 a) d (.xd (fs.zip vs).reverse) = upd H2 d (.xd (fs.zip vs).reverse) := by
        funext b
        by_cases hbd : b = d
        · subst hbd; rw [upd_same, upd_same]
        · rw [upd_ne hbd, upd_ne hbd]
          by_cases hba : b = a
          · subst hba; rw [L2.del_same, na]
          · rw [L2.del_ne hba, hrest b hba hbd, upd_ne hba]
      rw [e]
      exact h F2 _ _ d vs s2 (same_new (w2.noF hd)) (w2.newF hd) hv upd_same)
/-! the walk of such an __init__ -/
theorem ss_binit {B : Addr} {mc : Value} {x : Str} {p1 : Pos} {pl : Sem Bool} {Φ : Hp → List V → Prop} {C a0 : Addr} (T : BaseC X.K B mc) (hm : X.mg x = some (.ref B)) (hT : OexC X.K C) {t : TA} (ha : PA X (e :: es) t)
    (h : t σ H fun vs H1 => H1 = H ∧ ∃ ws, vs = .ref a0 :: ws ∧ ws.length ≤ 1000) (hH : H a0 = some (exo a0 C none)) (k : WSs X rest D σ H) (hg : Gl X x := by rfl) (hdb : (x == ("__debug__" : Str)) = false := by decide)
    (hc : eval (.Call (.Attribute (.Name x p1) "__init__" p2) (e :: es) [] pos) X.env = (do
      let ov ← eval (.Name x p1) X.env
      standAt p2.atName
      let (f, first) ← holding [ov] (getMethod ov "__init__" pl)
      callWith pos f first (backTo pos (starEach (e :: es) X.env)) (backToKw pos (keywordEach [] X.env))) := by rfl)
    (he : starEach (e :: es) X.env = (false, eval e X.env) :: starEach es X.env := by rfl) (hpl : (backTo pos (starEach es X.env)).any (·.1) = false := by rfl)
    (hs : swapsWith (.Call (.Attribute (.Name x p1) "__init__" p2) (e :: es) [] pos) none np.line X.env = pure false := by rfl)
    (mono : ∀ Q Q' : List V → Hp → Prop, (∀ vs H1, Q vs H1 → Q' vs H1) → t σ H Q → t σ H Q') :
    WSs X (.Expr (.Call (.Attribute (.Name x p1) "__init__" p2) (e :: es) [] pos) np :: rest) D σ H :=
  wss_cons (ws_of (ps_expr (pe_binit T hg hm ha hdb hc he hpl) hs) (mono _ _ (fun vs H1 ⟨e1, ws, e2, hl⟩ => by
    subst e1
    exact ⟨a0, C, ws, e2, hl, hT, hH, k⟩) h))
end
section
variable {X : Cx} {σ : L2.St} {F M H : Hp} {a b c e : Expr} {pos p p2 p3 p4 : Pos} {α β γ δ : Type} {r : Rep α} {r1 : Rep α} {r2 : Rep β} {r3 : Rep γ} {n n2 n3 : Str} {rest : List Stmt} {D : Ends}
theorem ss_ul3P (i j m : Nat) {ki} {P : α × β × γ → Prop} (he : Ev X e σ F M fun F v => ∃ x, h3R r1 r2 r3 F v x ∧ P x) (w : Own F M H)
    (k : ∀ F2 H2 u z t x, Same F F2 → Own F2 M H2 → r1 F2 u x.1 → r2 F2 z x.2.1 → r3 F2 t x.2.2 → P x → WSs X rest D (List.set (List.set (List.set σ i (some u)) j (some z)) m (some t)) H2)
    (hN : X.N.Nodup) (hi : X.N[i]? = some n := by rfl) (hj : X.N[j]? = some n2 := by rfl) (hm : X.N[m]? = some n3 := by rfl) (hx : Loc X.env.scope n := by first | exact Or.inl rfl | exact Or.inr rfl) (hx2 : Loc X.env.scope n2 := by first | exact Or.inl rfl | exact Or.inr rfl) (hx3 : Loc X.env.scope n3 := by first | exact Or.inl rfl | exact Or.inr rfl) (hf : Lc X n := by first | exact .inl rfl | exact .inr rfl) (hf2 : Lc X n2 := by first | exact .inl rfl | exact .inr rfl) (hf3 : Lc X n3 := by first | exact .inl rfl | exact .inr rfl) (hc : X.calm = true := by rfl)
    (z1 : swapsWithSole [.Tuple [.Name n p, .Name n2 p2, .Name n3 p3] ki p4] e pos.line X.env = pure false := by rfl) (z2 : swappedStores [.Tuple [.Name n p, .Name n2 p2, .Name n3 p3] ki p4] e X.env = pure none := by rfl) (z3 : (assignEach [.Tuple [.Name n p, .Name n2 p2, .Name n3 p3] ki p4] X.env).map (·.2) = [assign (.Tuple [.Name n p, .Name n2 p2, .Name n3 p3] ki p4) X.env] := by rfl)
    (q1 : (assignEach [.Name n p, .Name n2 p2, .Name n3 p3] X.env).map (·.2) = assign (.Name n p) X.env :: (assignEach [.Name n2 p2, .Name n3 p3] X.env).map (·.2) := by rfl) (q2 : (assignEach [.Name n2 p2, .Name n3 p3] X.env).map (·.2) = assign (.Name n2 p2) X.env :: (assignEach [.Name n3 p3] X.env).map (·.2) := by rfl) (q2' : (assignEach [.Name n3 p3] X.env).map (·.2) = assign (.Name n3 p3) X.env :: (assignEach [] X.env).map (·.2) := by rfl)
    (q3 : (assignEach [.Name n p, .Name n2 p2, .Name n3 p3] X.env).length = 3 := by rfl) (q4 : (assignEach [.Name n p, .Name n2 p2, .Name n3 p3] X.env).findIdx? (·.1) = none := by rfl) :
    WSs X (.Assign [.Tuple [.Name n p, .Name n2 p2, .Name n3 p3] ki p4] e pos :: rest) D σ H :=
  wss_cons (ws_of (ps_asg (pe_w e) (pg_unl hc (pgs_cons (pg_name hN hi hx hf) (pgs_cons (pg_name hN hj hx2 hf2) (pgs_cons (pg_name hN hm hx3 hf3) pgs_nil q2') q2) q1) q3 q4) z1 z2 z3) (he F H (Same.refl _) w _ fun F2 H2 v s2 w2 ⟨x, ⟨l, u, z, t, e, hl, h1, h2, h3⟩, hP⟩ =>
    ⟨l, _, e, SqL.of (w2.f _ _ hl), rfl, u, _, rfl, z, _, rfl, t, _, rfl, rfl, k F2 H2 u z t x s2 w2 h1 h2 h3 hP⟩))
end
theorem Ev.someO {X : Cx} {e : Expr} {σ : L2.St} {F M : Hp} {α : Type} {r : Rep α} {x : α} (h : EvF X e σ F M r x) : EvF X e σ F M (oR r) (some x) := h
theorem oR.get {α : Type} {r : Rep α} {F : Hp} {v : V} {x : Option α} {y : α} (h : oR r F v x) (e : x = some y) : r F v y := by subst e; exact h
instance {α : Type} {r : Rep α} [d : DEq r] : DEq (oR (lR r)) where
  toD := fun x => match x with
    | none => .none
    | some xs => .list (xs.map d.toD)
  dep := d.dep + 1
  dp := fun {K F v x} h => by
    cases x with
    | none => rw [show v = V.non from h]; exact .non
    | some xs => exact DEq.dp (r := lR r) (x := xs) h
  lay := fun {F v x} h => by
    cases x with
    | none => rfl
    | some xs => exact DEq.lay (r := lR r) (x := xs) h
  dpt := fun x => by
    cases x with
    | none => exact Nat.zero_le _
    | some xs => exact DEq.dpt (r := lR r) xs
  eqv := fun x y => by
    cases x with
    | none => cases y <;> simp [PyData.eqv]
    | some xs => cases y with
      | none => simp [PyData.eqv]
      | some ys =>
        rw [Option.some.injEq]
        exact DEq.eqv (r := lR r) xs ys
/-- an exception of the class at R is what «except H» names -/
theorem exm_own {K : PySem.W.Frag} {R S : Addr} (h1 : PySem.W.subIn K (.ref S) (.type "BaseException") = some true) (h2 : PySem.W.isClsIn K S = true) (h3 : PySem.W.typeIn K (.ref S) = some (.type "type")) (h4 : PySem.W.subIn K (.ref R) (.ref S) = some true) : PySem.W.exmOne K (.ref R) (.ref S) = some true := by
  unfold PySem.W.exmOne
  rw [h1, if_pos (by rfl)]
  have h2' : (PySem.W.clsIn K S).isSome = true := h2
  show (if ((PySem.W.clsIn K S).isSome && PySem.W.typeIn K (.ref S) == some (.type "type")) = true then PySem.W.subIn K (.ref R) (.ref S) else none) = some true
  rw [h2', h3, if_pos (by rfl)]
  exact h4
end Y

/-! ### what is behind an option -/
namespace Y
open PySem PySem.Spec PyProof.Rows L2
def oG {α : Type} [Inhabited α] (x : Option α) : α := x.getD default
theorem oG_some {α : Type} [Inhabited α] {y : α} : oG (some y) = y := rfl
theorem oG_is {α : Type} [Inhabited α] {x : Option α} (h : x.isNone = false) : x = some (oG x) := by cases x with
  | none => cases h
  | some y => rfl
theorem oG_not {α : Type} [Inhabited α] {x : Option α} (h : (!x.isNone) = true) : x = some (oG x) := by cases x with
  | none => cases h
  | some y => rfl
section
variable {X : Cx} {σ : L2.St} {F M : Hp} {e : Expr} {i : Int} {k : Bool}
theorem Bx.ev (h : Bx X e σ F M k) : EvF X e σ F M bR k := h.1
theorem eo_none : EvO X none σ F M none := trivial
theorem eo_some (h : EvF X e σ F M iR i) : EvO X (some e) σ F M (some i) := h
end
end Y

/-! ### slices with a written step: xs[a::c] -/
namespace Y
open PySem PySem.Spec PyProof.Rows L2
/-- what stands at these places -/
def pickS {α : Type} (xs : List α) (lo hi st : Option Int) : List α := (sliceRange (sliceBounds lo hi st xs.length).1 (sliceBounds lo hi st xs.length).2.1 (sliceBounds lo hi st xs.length).2.2).filterMap (xs[·]?)
theorem pickS_mem {α : Type} {xs : List α} {lo hi st : Option Int} {x : α} (h : x ∈ pickS xs lo hi st) : x ∈ xs := by
  obtain ⟨i, _, e⟩ := List.mem_filterMap.mp h
  exact List.mem_of_getElem? e
theorem pickS_arr {xs : List Value} {lo hi st : Option Int} : slicePick xs.toArray lo hi st = (pickS xs lo hi st).toArray := by
  unfold slicePick pickS
  rw [List.size_toArray]
  congr 2
  funext k
  exact List.getElem?_toArray ..
theorem pickS_len {α : Type} {xs : List α} {lo hi st : Option Int} : (pickS xs lo hi st).length ≤ xs.length := by
  have := slicePick_size_le (xs.map fun _ => Value.none).toArray lo hi st
  rw [pickS_arr, List.size_toArray, List.size_toArray, List.length_map] at this
  refine Nat.le_trans (Nat.le_of_eq ?_) this
  unfold pickS
  rw [List.length_map]
  generalize sliceRange _ _ _ = ks
  induction ks with
  | nil => rfl
  | cons k ks ih =>
    rw [List.filterMap_cons, List.filterMap_cons, List.getElem?_map]
    cases xs[k]? with
    | none => exact ih
    | some x => simp only [Option.map_some, List.length_cons, ih]
theorem pick_A2 {α β : Type} {p : α → β → Prop} {as : List α} {bs : List β} (h : A2 p as bs) : ∀ ks : List Nat, A2 p (ks.filterMap (as[·]?)) (ks.filterMap (bs[·]?))
  | [] => .nil
  | k :: ks => by
    rw [List.filterMap_cons, List.filterMap_cons]
    cases e : bs[k]? with
    | none =>
      have : as[k]? = none := List.getElem?_eq_none_iff.mpr (by rw [h.len]; exact List.getElem?_eq_none_iff.mp e)
      rw [this]; exact pick_A2 h ks
    | some b =>
      obtain ⟨a, ea, hp⟩ := h.get e
      rw [ea]; exact .cons hp (pick_A2 h ks)
theorem pickS_A2 {α β : Type} {p : α → β → Prop} {as : List α} {bs : List β} {lo hi st : Option Int} (h : A2 p as bs) : A2 p (pickS as lo hi st) (pickS bs lo hi st) := by
  unfold pickS
  rw [h.len]; exact pick_A2 h _
theorem pick_vals {as : List V} {bs : List Value} (h : Vals as bs) : ∀ ks : List Nat, Vals (ks.filterMap (as[·]?)) (ks.filterMap (bs[·]?))
  | [] => .nil
  | k :: ks => by
    rw [List.filterMap_cons, List.filterMap_cons]
    cases e : as[k]? with
    | none => rw [Vals.none_of h e]; exact pick_vals h ks
    | some b =>
      obtain ⟨a, ea, hp⟩ := h.get e
      rw [ea]; exact .cons hp (pick_vals h ks)
theorem pickS_vals {as : List V} {bs : List Value} {lo hi st : Option Int} (h : Vals as bs) : Vals (pickS as lo hi st) (pickS bs lo hi st) := by
  unfold pickS
  rw [h.length]; exact pick_vals h _
section
variable {X : Cx} {σ : L2.St} {F M H : Hp} {a e : Expr} {pos : Pos} {α : Type} {r : Rep α} {te : TE} {tl : TO}
def tStep (K : PySem.W.Frag) (te : TE) (tl : TO) (c : Int) : TE := fun σ H Q => te σ H fun x H1 => tl σ H1 fun lo H2 => ∃ a xs, x = .ref a ∧ SqL K H2 a xs ∧ ∀ p, H2 p = none → Q (.ref p) (upd H2 p (.lst (pickS xs lo none (some c))))
theorem pe_step {lo : Option Expr} {k : Nat} {c : Int} {p1 p3 : Pos} (h0 : c ≠ 0) (he : PE X e te) (hl : PO X lo tl) : PE X (.Subscript e (.Slice lo none (some (.Constant (.int c) k p1)) p3) pos) (tStep X.K te tl c) := by
  refine ⟨fun pins s σ H Q I h => ?_⟩
  refine Subscript_ (L2.thn (he.run pins s σ H _ I h) fun v s1 ⟨x, H1, I1, r1, q1⟩ => ?_)
  have hst : PO X (some (.Constant (.int c) k p1)) (tPart (tC (.int c))) := po_some pe_int
  refine wpAny_Slice (L2.thn (hl.run pins s1 σ H1 _ I1 q1) fun vl s2 ⟨l, H2, I2, pl, q2⟩ => ?_)
  refine L2.thn (po_none.run pins s2 σ H2 (fun o H3 => o = none ∧ H3 = H2) I2 ⟨rfl, rfl⟩) fun vu s3 ⟨u, H3, I3, pu, eu, e3⟩ => ?_
  subst eu e3
  refine L2.thn (hst.run pins s3 σ H3 (fun o H4 => o = some c ∧ H4 = H3) I3 ⟨c, rfl, rfl, rfl⟩) fun vs s4 ⟨o, H4, I4, ps, eo, e4⟩ => ?_
  subst eo e4
  obtain ⟨a, xs, ex, hx, q⟩ := q2
  subst ex
  cases r1
  have I5 : Inv X pins σ H4 { s4 with heap := s4.heap.push { cls := .type "slice", data := .fields #[vl, vu, vs] } } := I4.kept (t' := s4.toks) fun b ob q => Heap.get?_push_of_some _ q
  obtain ⟨its, r, ht, hz⟩ := I5.list hx
  have hlen := r.length
  show wpAny (model X.prog X.w) X.A (subscriptTail e (.Slice lo none (some (.Constant (.int c) k p1)) p3) (.ref a) (.ref s4.heap.objs.size)) (EP X pins σ Q) X.xe { s4 with heap := s4.heap.push { cls := .type "slice", data := .fields #[vl, vu, vs] } }
  refine tail_any (ops := [.ref a, .ref s4.heap.objs.size]) ht.isList.typeIs (PySem.slot_list_getitem.lookup) ?_ (by with_unfolding_all rfl)
  refine wpAny_getItem_list_slice ht.isList (Heap.IsSliceOf.new _ vl vu vs) pl pu ps (by simpa using h0) ?_ (by rw [List.size_toArray]; omega)
  rw [pickS_arr]
  refine ⟨.ref _, _, I5.laid (t' := s4.toks) (o := .lst (pickS xs l none (some c))) (fun b ob q => Heap.get?_push_of_some _ q) (Nat.le_refl _) ?_, rfl, q _ (I5.hok.fresh (Nat.le_refl _))⟩
  exact ⟨Nat.le_trans pickS_len hz, _, 0, pickS_vals r, Heap.get?_push_size _ rfl⟩
theorem en_step {xs : List α} {lo : Option Expr} {l : Option Int} {k : Nat} {c : Int} {p1 p3 : Pos} [m : Mono r] (ha : EvF X a σ F M (rdR X.K M r) xs) (hl : EvO X lo σ F M l) (h0 : c ≠ 0 := by decide) : EvN X (.Subscript a (.Slice lo none (some (.Constant (.int c) k p1)) p3) pos) σ F M r (pickS xs l none (some c)) :=
  fun F1 H1 s w Q q => we_of (pe_step h0 (pe_w a) (po_w lo)) (ha F1 H1 s w _ fun F2 H2 v s2 w2 ⟨k, vs, e, hk, h2⟩ => hl.run (s.trans s2) w2 _ fun F3 H3 s3 w3 =>
    ⟨k, vs, e, w3.sq (hk.imp (fun y => Same.sql s3 y) id), fun p hp => by
      exact q F3 _ p _ (s2.trans s3) ⟨same_in w3.f (w3.noF hp), same_in w3.m (w3.noM hp), w3.d, w3.t⟩ (w3.noF hp) (w3.noM hp) upd_same (pickS_A2 (h2.up s3))⟩)
/-- for x in t, t a tuple of two or three things of one kind -/
theorem ei_tup {tg it : Expr} {xs : List α} [m : Mono r] (he : Ev X it σ F M fun F v => ∃ a vs, v = .ref a ∧ F a = some (.tup vs) ∧ A2 (r F) vs xs) : EvI X tg it σ F M r xs :=
  fun F1 H1 s w R q => wi_of (pi_tup (pe_w it)) (he F1 H1 s w _ fun F2 H2 v s2 w2 ⟨l, vs, e, hl, h2⟩ => ⟨l, e, ⟨vs, SqT.of (w2.f _ _ hl)⟩, q F2 H2 _ s2 w2 fun i F3 M3 H3 s3 w3 =>
    have ht : SqT X.K H3 l vs := SqT.of (w3.f _ _ (s3 _ _ hl))
    ⟨fun hi => ⟨vs, ht, by rw [h2.len]; exact hi⟩, fun x hx => by
      obtain ⟨u, hu, hr⟩ := h2.get hx
      refine ⟨⟨vs, u, ht, hu⟩, fun v' H' hy => ?_⟩
      obtain ⟨rfl, hy⟩ := hy
      have e2 := hy vs ht
      rw [hu] at e2
      cases e2
      exact ⟨F3, Same.refl _, w3, m.mono s3 hr⟩⟩⟩)
theorem ei_t3 {tg it : Expr} {x : α × α × α} [m : Mono r] (he : EvF X it σ F M (t3R r r r) x) : EvI X tg it σ F M r [x.1, x.2.1, x.2.2] :=
  ei_tup (he.imp fun _ _ ⟨a, u, w, z, e, h, h1, h2, h3⟩ => ⟨a, _, e, h, .cons h1 (.cons h2 (.cons h3 .nil))⟩)
theorem ei_t2 {tg it : Expr} {x : α × α} [m : Mono r] (he : EvF X it σ F M (t2R r r) x) : EvI X tg it σ F M r [x.1, x.2] :=
  ei_tup (he.imp fun _ _ ⟨a, u, w, e, h, h1, h2⟩ => ⟨a, _, e, h, .cons h1 (.cons h2 .nil)⟩)
end
end Y

/-! ### one's own lists handed to a call: they stand while it runs, and are one's own again -/
namespace Y
open PySem PySem.Spec PyProof.Rows L2
/-- reps that lean on no list and no dict -/
class NoLst {α : Type} (r : Rep α) : Prop where
  nl : ∀ {F F' : Hp} {v : V} {x : α}, (∀ b vs, F b = some (.tup vs) → F' b = some (.tup vs)) → r F v x → r F' v x
instance (priority := low) {α : Type} {r : Rep α} [f : Flat r] : NoLst r := ⟨fun _ h => f.fl h⟩
instance {α β : Type} {r : Rep α} {s : Rep β} [a : NoLst r] [b : NoLst s] : NoLst (t2R r s) := ⟨fun k ⟨l, u, w, e, h, h1, h2⟩ => ⟨l, u, w, e, k _ _ h, a.nl k h1, b.nl k h2⟩⟩
instance {α β γ : Type} {r : Rep α} {s : Rep β} {t : Rep γ} [a : NoLst r] [b : NoLst s] [c : NoLst t] : NoLst (t3R r s t) := ⟨fun k ⟨l, u, w, z, e, h, h1, h2, h3⟩ => ⟨l, u, w, z, e, k _ _ h, a.nl k h1, b.nl k h2, c.nl k h3⟩⟩
instance {α : Type} {r : Rep α} [a : NoLst r] : NoLst (oR r) := ⟨fun {F F' v x} k h => by
  cases x with
  | none => exact h
  | some y => exact a.nl (x := y) k h⟩
theorem A2.nl {α : Type} {r : Rep α} [m : NoLst r] {F F' : Hp} (e : ∀ b vs, F b = some (.tup vs) → F' b = some (.tup vs)) {vs : List V} {xs : List α} (h : A2 (r F) vs xs) : A2 (r F') vs xs := h.imp fun _ _ q => m.nl e q
section
variable {X : Cx} {σ : L2.St} {F F1 F2 M M' H H1 H2 : Hp} {e : Expr} {l : Addr} {o : HO} {α : Type} {r : Rep α} {x : α} {xs : List α} {k : Bool}
theorem Own.cold (w : Own F1 M H1) (q : M = upd M' l o) (hn : M' l = none) : Own (upd F1 l o) M' H1 := (w.cast q).fz1 hn
theorem Own.warm (w : Own F1 M H1) (q : M = upd M' l o) (w2 : Own F2 M' H2) (s : Same (upd F1 l o) F2) : Own F1 M H2 := by
  subst q
  have hl : F1 l = none := w.d l o upd_same
  refine ⟨fun b y h => w2.f _ _ (s _ _ (by rw [upd_ne (fun z => by rw [z, hl] at h; cases h)]; exact h)), fun b y h => ?_, w.d, w.t⟩
  by_cases z : b = l
  · subst z; rw [upd_same] at h; cases h; exact w2.f _ _ (s _ _ upd_same)
  · rw [upd_ne z] at h; exact w2.m _ _ h
theorem same_cold (s : Same F F1) (h : F l = none) : Same (upd F l o) (upd F1 l o) := same_upd s
theorem Ev.thaw [f : Flat r] (q : M = upd M' l o) (hn : M' l = none) (h : EvF X e σ (upd F l o) M' r x) : EvF X e σ F M r x :=
  fun F1 H1 s w Q k => h (upd F1 l o) H1 (same_upd s) (w.cold q hn) Q fun F2 H2 v s2 w2 hv => k F1 H2 v (Same.refl _) (w.warm q w2 s2) (f.fl hv)
theorem Bx.thaw (q : M = upd M' l o) (hn : M' l = none) (h : Bx X e σ (upd F l o) M' k) : Bx X e σ F M k :=
  ⟨Ev.thaw q hn h.1, fun F1 H1 s w Q c => h.2 (upd F1 l o) H1 (same_upd s) (w.cold q hn) Q fun F2 H2 s2 w2 => c F1 H2 (Same.refl _) (w.warm q w2 s2)⟩
theorem EvN.thaw [f : NoLst r] {vs : List V} (q : M = upd M' l (.lst vs)) (hn : M' l = none) (h : EvN X e σ (upd F l (.lst vs)) M' r xs) : EvN X e σ F M r xs :=
  fun F1 H1 s w Q k => h (upd F1 l (.lst vs)) H1 (same_upd s) (w.cold q hn) Q fun F2 H2 a us s2 w2 n1 n2 hh h2 => by
    have hl : F1 l = none := by subst q; exact w.d l _ upd_same
    have hal : a ≠ l := fun z => by subst z; rw [s2 _ _ upd_same] at n1; cases n1
    have sd : Same F1 (del F2 l) := fun b y hb => by
      have ne : b ≠ l := fun z => by rw [z, hl] at hb; cases hb
      rw [del_ne ne]; exact s2 _ _ (by rw [upd_ne ne]; exact hb)
    have w3 := w.warm q w2 s2
    refine k (del F2 l) H2 a us sd ⟨fun b y hb => ?_, w3.m, fun b y hb => ?_, w3.t⟩ ?_ ?_ hh (h2.nl fun b ws hb => ?_)
    · by_cases z : b = l
      · subst z; rw [del_same] at hb; cases hb
      · rw [del_ne z] at hb; exact w2.f _ _ hb
    · by_cases z : b = l
      · subst z; exact del_same
      · rw [del_ne z]
        subst q
        rw [upd_ne z] at hb
        exact w2.d _ _ hb
    · rw [del_ne hal]; exact n1
    · subst q; rw [upd_ne hal]; exact n2
    · have ne : b ≠ l := fun z => by subst z; rw [s2 _ _ upd_same] at hb; cases hb
      rw [del_ne ne]; exact hb
/-- the ways of a statement meet behind it -/
theorem ss_join {F : Hp} {st : Stmt} {rest : List Stmt} {D : Ends} {H : Hp} (J : Hp → Hp → L2.St → Prop) (h1 : ∀ F2 H2 σ2, Same F F2 → J F2 H2 σ2 → WSs X rest D σ2 H2)
    (h2 : (∀ F2 H2 σ2, Same F F2 → J F2 H2 σ2 → WSs X rest D σ2 H2) → WSs X (st :: rest) D σ H) : WSs X (st :: rest) D σ H := h2 h1
end
end Y

/-! ### dicts whose keys are tuples of ints -/
namespace Y
open PySem PySem.Spec PyProof.Rows L2
/-- all tuples of the heap stand for good -/
def tupF (F H : Hp) : Hp := fun b => match F b with
  | some o => some o
  | none => match H b with
    | some (.tup vs) => some (.tup vs)
    | _ => none
theorem tupF_same {F H : Hp} : Same F (tupF F H) := fun b o e => by unfold tupF; rw [e]
theorem tupF_at {F M H : Hp} (w : Own F M H) {b : Addr} {vs : List V} (h : H b = some (.tup vs)) : tupF F H b = some (.tup vs) := by
  unfold tupF
  cases e : F b with
  | some o => have := w.f _ _ e; rw [h] at this; cases this; rfl
  | none => dsimp only; rw [h]
theorem Own.tups {F M H : Hp} (w : Own F M H) : Own (tupF F H) M H := by
  refine ⟨fun b o e => ?_, w.m, fun b o e => ?_, w.t⟩
  · unfold tupF at e
    cases q : F b with
    | some u => rw [q] at e; cases e; exact w.f _ _ q
    | none =>
      rw [q] at e
      dsimp only at e
      split at e
      · rename_i vs hv; cases e; exact hv
      · cases e
  · unfold tupF
    rw [w.d b o e]
    dsimp only
    rw [w.m b o e]
    cases o with
    | tup vs => exact absurd e (w.t b vs)
    | _ => rfl
class TupB {α : Type} (r : Rep α) extends TupI r where
  back : ∀ {F : Hp} {t : Addr} {x : α}, F t = some (.tup ((key x).map V.int)) → r F (.ref t) x
instance : TupB (t2R iR iR) := { back := fun {F t x} h => ⟨t, _, _, rfl, h, rfl, rfl⟩ }
instance : TupB (t3R iR iR iR) := { back := fun {F t x} h => ⟨t, _, _, _, rfl, h, rfl, rfl, rfl⟩ }
def kI (xs : List Int) : List Key := xs.map Sum.inl
theorem kI_kV (xs : List Int) : (kI xs).map kV = xs.map V.int := by unfold kI; rw [List.map_map]; rfl
theorem kI_inj {xs ys : List Int} (h : kI xs = kI ys) : xs = ys := List.map_inj_right (fun _ _ h => Sum.inl.inj h) |>.mp h
/-- pairs of a dict as they stand for typed ones -/
def DT {κ α : Type} (rk : Rep κ) [t : TupB rk] (r : Rep α) (F : Hp) (ks : List (List Key × V)) (kvs : List (κ × α)) : Prop := A2 (fun p q => p.1 = kI (t.key q.1) ∧ r F p.2 q.2) ks kvs ∧ (kvs.map (·.1)).Nodup
section
variable {κ α : Type} [DecidableEq κ] {rk : Rep κ} [t : TupB rk] {r : Rep α} {F : Hp}
theorem DT.sub [m : Mono r] {F' : Hp} (e : Sub F F') {ks : List (List Key × V)} {kvs : List (κ × α)} (h : DT rk r F ks kvs) : DT rk r F' ks kvs := ⟨h.1.imp fun _ _ q => ⟨q.1, m.sub e q.2⟩, h.2⟩
theorem DT.up [m : Mono r] {F' : Hp} (e : Same F F') {ks : List (List Key × V)} {kvs : List (κ × α)} (h : DT rk r F ks kvs) : DT rk r F' ks kvs := h.sub (Same.sub e)
theorem DT.nil : DT rk r F [] ([] : List (κ × α)) := ⟨.nil, .nil⟩
theorem DT.len {ks : List (List Key × V)} {kvs : List (κ × α)} (h : DT rk r F ks kvs) : ks.length = kvs.length := h.1.len
theorem DT.look {ks : List (List Key × V)} {kvs : List (κ × α)} (h : DT rk r F ks kvs) (x : κ) : match lk x kvs with
    | none => valV ks (kI (t.key x)) = none
    | some y => ∃ v, valV ks (kI (t.key x)) = some v ∧ r F v y := by
  obtain ⟨h, nd⟩ := h
  clear nd
  induction h with
  | nil => exact rfl
  | @cons p p' _ _ q _ ih =>
    unfold lk
    by_cases e : p'.1 = x
    · rw [if_pos e]
      exact ⟨_, valV_pos (by rw [q.1, e]), q.2⟩
    · rw [if_neg e, valV_neg (fun z => e (t.inj _ _ (kI_inj (q.1.symm.trans z))))]
      exact ih
theorem DT.has {ks : List (List Key × V)} {kvs : List (κ × α)} (h : DT rk r F ks kvs) (x : κ) : (valV ks (kI (t.key x))).isSome = (lk x kvs).isSome := by
  have := h.look x
  cases q : lk x kvs with
  | none => rw [q] at this; rw [this]; rfl
  | some y => rw [q] at this; obtain ⟨v, e, _⟩ := this; rw [e]; rfl
theorem putK_consT {p : List Key × V} {ks : List (List Key × V)} {k : List Key} {v : V} (h : ∀ q ∈ ks, q.1 ≠ p.1) : putK (p :: ks) k v = if p.1 = k then (p.1, v) :: ks else p :: putK ks k v := by
  unfold putK
  by_cases e : p.1 = k
  · rw [if_pos e, List.any_cons, decide_eq_true e, Bool.true_or, if_pos rfl, List.map_cons, if_pos e]
    congr 1
    refine (List.map_congr_left fun q hq => ?_).trans (List.map_id _)
    rw [if_neg (fun z => h q hq (z.trans e.symm))]; rfl
  · rw [if_neg e, List.any_cons, decide_eq_false e, Bool.false_or]
    split
    · rw [List.map_cons, if_neg e]
    · rw [List.cons_append]
theorem DT.put {ks : List (List Key × V)} {kvs : List (κ × α)} {x : κ} {y : α} {v : V} (h : DT rk r F ks kvs) (hr : r F v y) : DT rk r F (putK ks (kI (t.key x)) v) (pt x y kvs) := by
  refine ⟨?_, pt_nodup x y h.2⟩
  obtain ⟨h, nd⟩ := h
  induction h with
  | nil => exact .cons ⟨rfl, hr⟩ .nil
  | @cons p p' _ _ q tl ih =>
    rw [List.map_cons, List.nodup_cons] at nd
    rw [putK_consT (fun q2 h2 z => by
      obtain ⟨i, hi⟩ := List.getElem?_of_mem h2
      obtain ⟨b, hb, hk⟩ := tl.getL hi
      have : b.1 = p'.1 := t.inj _ _ (kI_inj (hk.1.symm.trans (z.trans q.1)))
      exact nd.1 (List.mem_map.mpr ⟨b, List.mem_of_getElem? hb, this⟩))]
    unfold pt
    by_cases e : p'.1 = x
    · rw [if_pos e, if_pos (by rw [q.1, e])]
      exact .cons ⟨q.1, hr⟩ tl
    · rw [if_neg e, if_neg (fun z => e (t.inj _ _ (kI_inj (q.1.symm.trans z))))]
      exact .cons q (ih nd.2)
end
def dtR {κ α : Type} (rk : Rep κ) [TupB rk] (r : Rep α) : Rep (List (κ × α)) := fun F v kvs => ∃ a o ks, v = .ref a ∧ F a = some o ∧ DictO o (.dT ks) ∧ DT rk r F ks kvs
instance {κ α : Type} {rk : Rep κ} [TupB rk] {r : Rep α} [m : Mono r] : Mono (dtR rk r) := ⟨fun e ⟨a, o, ks, h1, h2, h3, h4⟩ =>
  let ⟨o', h5, h6⟩ := e.dic h2 h3; ⟨a, o', ks, h1, h5, h6, ⟨h4.1.imp fun _ _ q => ⟨q.1, m.sub e q.2⟩, h4.2⟩⟩⟩
def rdT (M : Hp) {κ α : Type} (rk : Rep κ) [TupB rk] (r : Rep α) : Rep (List (κ × α)) := fun F v kvs => ∃ a ks, v = .ref a ∧ ((∃ o, F a = some o ∧ DictO o (.dT ks)) ∨ M a = some (.dT ks)) ∧ DT rk r F ks kvs
instance {M : Hp} {κ α : Type} {rk : Rep κ} [TupB rk] {r : Rep α} [m : Mono r] : Mono (rdT M rk r) := ⟨fun e ⟨a, ks, h1, h2, h4⟩ =>
  ⟨a, ks, h1, h2.imp (fun ⟨o, h2, h3⟩ => let ⟨o', h5, h6⟩ := e.dic h2 h3; ⟨o', h5, h6⟩) id, ⟨h4.1.imp fun _ _ q => ⟨q.1, m.sub e q.2⟩, h4.2⟩⟩⟩
theorem DictO.rdT {H : Hp} {a : Addr} {o : HO} {ks : List (List Key × V)} (h : H a = some o) (d : DictO o (.dT ks)) : Rd H a (.dT ks) := by
  cases d with
  | t => exact .inl h
  | tf ob => exact .inr ⟨ob, h⟩
theorem rdT.rd {M F H : Hp} {a : Addr} {ks : List (List Key × V)} (w : Own F M H) (h : (∃ o, F a = some o ∧ DictO o (.dT ks)) ∨ M a = some (.dT ks)) : Rd H a (.dT ks) := by
  rcases h with ⟨o, h, d⟩ | h
  · exact DictO.rdT (w.f _ _ h) d
  · exact .inl (w.m _ _ h)
/-- len of a dict with tuple keys, locked or not -/
theorem call_len_rdT {X : Cx} : CallR X (.builtin "len") (fun xs H Q => ∃ (p : Addr) (kvs : List (List Key × V)), xs = [.ref p] ∧ Rd H p (.dT kvs) ∧ Q (.int ((kvs.length : Nat) : Int)) H) := by
  intro pins s σ H xs us Q I r h
  obtain ⟨p, kvs, rfl, hp, q⟩ := h
  obtain ⟨u, rfl, rx⟩ := vals1 r
  obtain rfl : u = .ref p := rx
  obtain ⟨z, hd, ys, rel, dd⟩ := dt_rd I.hok hp
  have hl : kvs.length = ys.length := Paired.length rel
  refine call_len_dictH hd dd (by rw [← hl]; rw [sizeLine_eq] at z; omega) ?_
  rw [← hl]
  exact ⟨.int ((kvs.length : Nat) : Int), H, I.tok _, ⟨_, rfl⟩, q⟩
section
variable {X : Cx} {σ : L2.St} {F M H : Hp} {a b c e : Expr} {pos p p2 : Pos} {κ α β : Type} [DecidableEq κ] {rk : Rep κ} [t : TupB rk] {r : Rep α} {n : Str} {rest : List Stmt} {D : Ends}
theorem Ev.dt {kvs : List (κ × α)} (h : EvF X e σ F M (dtR rk r) kvs) : EvF X e σ F M (rdT M rk r) kvs := h.imp fun _ _ ⟨a, o, ks, h1, h2, h3, h4⟩ => ⟨a, ks, h1, .inl ⟨o, h2, h3⟩, h4⟩
theorem ev_varDt (i : Nat) {kvs : List (κ × α)} {l : Addr} {ks : List (List Key × V)} {n : Str} [m : Mono r] (hs : σ[i]? = some (some (.ref l))) (hM : M l = some (.dT ks)) (hr : DT rk r F ks kvs) (hN : X.N[i]? = some n := by rfl)
    (hv : Vis X.env.scope n := by first | exact Or.inl rfl | exact Or.inr (Or.inl rfl) | exact Or.inr (Or.inr rfl)) (hd : (n == ("__debug__" : Str)) = false := by decide) (hcd : (n == ("__classdict__" : Str)) = false := by decide) :
    EvF X (.Name n pos) σ F M (rdT M rk r) kvs := fun F1 H1 s w Q q => we_of (pe_var hN hv hd hcd) ⟨_, hs, q F1 H1 _ (Same.refl _) w ⟨l, ks, rfl, .inr hM, hr.up s⟩⟩
/-- how a dict holds at a key that is a tuple -/
theorem DT.get {F1 M1 H1 : Hp} {l : Addr} {ks : List (List Key × V)} {u : V} {x : κ} (w : Own F1 M1 H1) (hl : (∃ o, F1 l = some o ∧ DictO o (.dT ks)) ∨ M1 l = some (.dT ks)) (hu : rk F1 u x) : DGet H1 l u (valV ks (kI (t.key x))) := by
  obtain ⟨b, rfl, hb⟩ := t.tup hu
  exact .inr ⟨ks, _, b, rdT.rd w hl, rfl, by rw [kI_kV]; exact w.f _ _ hb, rfl⟩
theorem bx_inT {x : κ} {kvs : List (κ × α)} [mk : Mono rk] (hu : X.A.units + 64 < cLine) (ha : EvF X a σ F M rk x) (hb : EvF X b σ F M (rdT M rk r) kvs) (hm : behindInMarks .In b = false := by rfl) : Bx X (.Compare a [.In] [b] pos) σ F M (lk x kvs).isSome :=
  bx_c (fun F1 H1 s w Q q => wc_of (pc_din (by omega) (pe_w a) (pe_w b)) (ha F1 H1 s w _ fun F2 H2 v s2 w2 hv => hb F2 H2 (s.trans s2) w2 _ fun F3 H3 u s3 w3 ⟨l, ks, e, hl, hk⟩ =>
    ⟨l, valV ks (kI (t.key x)), e, DT.get w3 hl (Mono.mono s3 hv), by rw [hk.has x]; exact q F3 H3 (s2.trans s3) w3⟩)) hm
theorem bx_niT {x : κ} {kvs : List (κ × α)} [mk : Mono rk] (hu : X.A.units + 64 < cLine) (ha : EvF X a σ F M rk x) (hb : EvF X b σ F M (rdT M rk r) kvs) (hm : behindInMarks .NotIn b = false := by rfl) : Bx X (.Compare a [.NotIn] [b] pos) σ F M (!(lk x kvs).isSome) :=
  bx_c (fun F1 H1 s w Q q => wc_of (pc_dnotin (by omega) (pe_w a) (pe_w b)) (ha F1 H1 s w _ fun F2 H2 v s2 w2 hv => hb F2 H2 (s.trans s2) w2 _ fun F3 H3 u s3 w3 ⟨l, ks, e, hl, hk⟩ =>
    ⟨l, valV ks (kI (t.key x)), e, DT.get w3 hl (Mono.mono s3 hv), by rw [hk.has x]; exact q F3 H3 (s2.trans s3) w3⟩)) hm
theorem evT_get {x : κ} {y : α} {kvs : List (κ × α)} [m : Mono r] (hu : X.A.units + 64 < cLine) (ha : EvF X a σ F M (rdT M rk r) kvs) (hb : EvF X b σ F M rk x) (h : lk x kvs = some y) (hs : NoSl b := by exact fun _ _ => rfl) : EvF X (.Subscript a b pos) σ F M r y :=
  fun F1 H1 s w Q q => we_of (pe_dget (by omega) (pe_w a) (pe_w b) hs) (ha F1 H1 s w _ fun F2 H2 v s2 w2 ⟨l, ks, e, hl, hk⟩ => hb F2 H2 (s.trans s2) w2 _ fun F3 H3 u s3 w3 hu => by
    have := (hk.up s3).look x
    rw [h] at this
    obtain ⟨z, hz, hr⟩ := this
    refine ⟨l, z, e, ?_, q F3 H3 z (s2.trans s3) w3 hr⟩
    rw [← hz]
    exact DT.get w3 (hl.imp (fun ⟨o, h1, h2⟩ => ⟨o, s3 _ _ h1, h2⟩) id) hu)
theorem evT_get2 {f : Expr} {x : κ} {z : α} {kvs : List (κ × α)} {apos : Pos} [m : Mono r] [mk : Mono rk] (hu : X.A.units + 64 < cLine) (ha : EvF X a σ F M (rdT M rk r) kvs) (hb : EvF X b σ F M rk x) (hc : EvF X f σ F M r z) (hm : M2 X a "get" apos b f pos := by exact ⟨rfl, rfl, rfl, rfl⟩) :
    EvF X (.Call (.Attribute a "get" apos) [b, f] [] pos) σ F M r ((lk x kvs).getD z) :=
  fun F1 H1 s w Q q => we_of (pe_dget2 (by omega) (pe_w a) (pe_w b) (pe_w f) hm) (ha F1 H1 s w _ fun F2 H2 v s2 w2 ⟨l, ks, e, hl, hk⟩ => ⟨l, e, .inr ⟨ks, rdT.rd w2 hl⟩, hb F2 H2 (s.trans s2) w2 _ fun F3 H3 u s3 w3 hu => hc F3 H3 ((s.trans s2).trans s3) w3 _ fun F4 H4 u2 s4 w4 hz => by
    refine ⟨valV ks (kI (t.key x)), DT.get w4 (hl.imp (fun ⟨o, h1, h2⟩ => ⟨o, s4 _ _ (s3 _ _ h1), h2⟩) id) (Mono.mono s4 hu), ?_⟩
    have := (hk.up (s3.trans s4)).look x
    cases h : lk x kvs with
    | none => rw [h] at this; rw [this]; exact q F4 H4 _ ((s2.trans s3).trans s4) w4 (by rw [h]; exact hz)
    | some y => rw [h] at this; obtain ⟨z', e1, hr⟩ := this; rw [e1]; exact q F4 H4 _ ((s2.trans s3).trans s4) w4 (by rw [h]; exact hr)⟩)
theorem evT_get1 {x : κ} {kvs : List (κ × α)} {apos : Pos} [m : Mono r] (hu : X.A.units + 64 < cLine) (ha : EvF X a σ F M (rdT M rk r) kvs) (hb : EvF X b σ F M rk x) (hm : M1 X a "get" apos b pos := by exact ⟨rfl, rfl, rfl, rfl⟩) :
    EvF X (.Call (.Attribute a "get" apos) [b] [] pos) σ F M (oR r) (lk x kvs) :=
  fun F1 H1 s w Q q => we_of (pe_dget1 (by omega) (pe_w a) (pe_w b) hm) (ha F1 H1 s w _ fun F2 H2 v s2 w2 ⟨l, ks, e, hl, hk⟩ => ⟨l, e, .inr ⟨ks, rdT.rd w2 hl⟩, hb F2 H2 (s.trans s2) w2 _ fun F3 H3 u s3 w3 hu => by
    refine ⟨valV ks (kI (t.key x)), DT.get w3 (hl.imp (fun ⟨o, h1, h2⟩ => ⟨o, s3 _ _ h1, h2⟩) id) hu, ?_⟩
    have := (hk.up s3).look x
    refine q F3 H3 _ (s2.trans s3) w3 ?_
    cases h : lk x kvs with
    | none => rw [h] at this; rw [this]; exact rfl
    | some y => rw [h] at this; obtain ⟨z', e1, hr⟩ := this; rw [e1]; exact hr⟩)
theorem evT_len {kvs : List (κ × α)} (hm : X.mg "len" = none) (ha : EvF X a σ F M (rdT M rk r) kvs) (hg : Gl X "len" := by rfl) (he : starEach [a] X.env = (false, eval a X.env) :: starEach [] X.env := by rfl) (hpl : (backTo pos (starEach [] X.env)).any (·.1) = false := by rfl) :
    EvF X (.Call (.Name "len" p) [a] [] pos) σ F M iR (kvs.length : Int) :=
  fun F1 H1 s w Q q => we_of (pe_callB call_len_rdT hg hm PySem.boot_len (pa_cons (pe_w a) pa_nil he) (he := he) (hpl := hpl)) (ha F1 H1 s w _ fun F2 H2 v s2 w2 ⟨l, ks, e, hl, hk⟩ =>
    ⟨l, ks, by rw [e], rdT.rd w2 hl, q F2 H2 _ s2 w2 (show iR F2 (V.int (ks.length : Int)) (kvs.length : Int) from by rw [hk.len]; rfl)⟩)
/-- x = {} whose keys will be tuples -/
theorem ss_setDt (i : Nat) (w : Own F M H) (k : ∀ H2 l, M l = none → Own F (upd M l (.dT [])) H2 → WSs X rest D (σ.set i (some (.ref l))) H2)
    (hN : X.N.Nodup) (hi : X.N[i]? = some n := by rfl) (hx : Loc X.env.scope n := by first | exact Or.inl rfl | exact Or.inr rfl) (hs : swapsWith (.Dict [] [] p2) (some (.Name n p)) pos.line X.env = pure false := by rfl) (hf : X.fn n = true ∨ X.env.scope.names.lookup n = some .local := by first | exact .inl rfl | exact .inr rfl) :
    WSs X (.Assign [.Name n p] (.Dict [] [] p2) pos :: rest) D σ H :=
  wss_cons (ws_of (ps_set hN hi hx pe_dnewT hs hf) fun l hl => k _ l (w.noM hl) (w.newM hl))
theorem ss_dputT {ix : Expr} {l : Addr} {ks : List (List Key × V)} {kvs : List (κ × α)} {x : κ} {y : α} (i : Nat) {q1 q2 : Pos} [m : Mono r] (hu : X.A.units + 64 < cLine) (hs : σ[i]? = some (some (.ref l))) (hM : M l = some (.dT ks)) (hA : DT rk r F ks kvs) (he : EvF X e σ F M r y) (hix : EvF X ix σ F M rk x) (w : Own F M H) (hl : kvs.length < 1000000)
    (kk : ∀ F2 M2 H2 ks', Same F F2 → M2 = upd M l (.dT ks') → Own F2 M2 H2 → DT rk r F2 ks' (pt x y kvs) → WSs X rest D σ H2) (hN : X.N[i]? = some n := by rfl)
    (hv : Vis X.env.scope n := by first | exact Or.inl rfl | exact Or.inr (Or.inl rfl) | exact Or.inr (Or.inr rfl)) (hd : (n == ("__debug__" : Str)) = false := by decide) (hcd : (n == ("__classdict__" : Str)) = false := by decide)
    (hsw : swapsWith e (some (.Subscript (.Name n q1) ix q2)) pos.line X.env = pure false := by rfl) :
    WSs X (.Assign [.Subscript (.Name n q1) ix q2] e pos :: rest) D σ H :=
  wss_cons (ws_of (ps_dput (by omega) (pe_var hN hv hd hcd) (pe_w ix) (pe_w e) hsw) (he F H (Same.refl _) w _ fun F2 H2 v s2 w2 hv => ⟨_, hs, hix F2 H2 s2 w2 _ fun F3 H3 u s3 w3 hu => by
    have hz : ks.length < sizeLine := Nat.lt_of_lt_of_le (show ks.length < 1000000 by rw [hA.len]; exact hl) (by decide)
    obtain ⟨b, rfl, hb⟩ := t.tup hu
    exact ⟨l, _, rfl, DPut.t (w3.m _ _ hM) (by rw [kI_kV]; exact w3.f _ _ hb) hz, kk F3 _ _ _ (s2.trans s3) rfl (w3.put hM) ((hA.up (s2.trans s3)).put (Mono.mono s3 hv))⟩⟩))
theorem yields_keysT {d : Addr} {o : Obj} {ks : List (List Key × V)} {kvs : List (κ × α)} (hF : F d = some (.frz o (.dT ks))) (h : DT rk r F ks kvs) : Yields F (Itkt d o ks) rk (kvs.map (·.1)) := fun i F3 M3 H3 s3 w3 =>
  ⟨fun hi => ⟨w3.f _ _ (s3 _ _ hF), by rw [h.len]; simpa using hi⟩, fun x hx => by
    rw [List.getElem?_map] at hx
    cases e : kvs[i]? with
    | none => rw [e] at hx; cases hx
    | some q =>
      rw [e] at hx
      cases hx
      obtain ⟨p, hp, hk⟩ := h.1.get e
      refine ⟨⟨w3.f _ _ (s3 _ _ hF), (List.getElem?_eq_some_iff.mp hp).1⟩, fun v H' hy => ?_⟩
      obtain ⟨rfl, k, v', b, h1, rfl, hb⟩ := hy
      rw [hp] at h1
      cases h1
      have hk1 := hk.1
      dsimp only at hk1
      subst hk1
      rw [kI_kV] at hb
      exact ⟨tupF F3 _, tupF_same, w3.tups, t.back (tupF_at w3 hb)⟩⟩
end
end Y

/-! ### sorted of a dict: its keys, tuples of ints, down; ints; comprehensions over a dict with tuple keys -/
namespace Y
open PySem PySem.Spec PyProof.Rows L2
section
variable {prog : Program} {w : World} {A : Around} {E : Value → Shared → Prop} {s : Shared}
/-- sorted(x, ..) of a walked thing whose items are vs -/
theorem sorted_of {x : Addr} {vs : List Value} {b : Bool} {kw : List (Str × Value)} {ltv : Value → Value → Bool} {Q : Value → Shared → Prop} (hk : ∀ a, Builtin.«list.sort» ⟨[.ref a], kw⟩ = Builtin.«list.sort» ⟨[.ref a], [(Str.ofString "reverse", .bool b)]⟩)
    (ha1 : argsOk "sorted" ⟨[.ref x], kw⟩) (ha2 : ∀ a, argsOk "list.sort" ⟨[a], kw⟩) (O : SrtO.Swo ltv)
    (hc : ∀ R : List Value → Shared → Prop, (∀ (h' : Heap) (tk : Nat), (∀ b o, s.heap.get? b = some o → h'.get? b = some o) → R vs { s with heap := h', toks := tk }) → wpAny (model prog w) A.in1 (collect (.ref x)) R E s)
    (hz : vs.length ≤ sizeLine)
    (hS : 2 ≤ vs.length → ∀ (h₁ : Heap) (tk : Nat) (a : Addr), h₁.get? a = some (seqObj "list" vs.toArray 0) → (∀ b o, s.heap.get? b = some o → b ≠ a ∧ h₁.get? b = some o) → SrtO.SortableO prog w A.in1.in1 { s with heap := h₁, toks := tk } a vs ltv)
    (h : ∀ (h1 h' : Heap) (tk : Nat) (d : Addr) (out : List Value), SrtO.Srtd ltv out → SrtO.Stb ltv out (if b = true then vs.reverse else vs) → (∀ b o, s.heap.get? b = some o → h1.get? b = some o) → (∀ b o, h1.get? b = some o → h'.get? b = some o) → h1.objs.size ≤ d → (∃ n, h'.get? d = some (seqObj "list" (if b = true then out.toArray.reverse else out.toArray) n)) → Q (.ref d) { s with heap := h', toks := tk }) :
    wpAny (model prog w) A (call (.builtin "sorted") [.ref x] kw) Q E s := by
  refine call_function_entry_kw kind_sorted plain_sorted entry_sorted ha1 ?_
  unfold Builtin.«sorted»
  refine wpAny_bind (m := checkCount "sorted" 1 1 _) (wpAny_pure ?_)
  refine wpAny_bind (hc _ fun h1 tk k1 => ?_)
  refine wpAny_bind (wpAny_newList ?_ hz)
  have hoL : (h1.push (seqObj "list" vs.toArray 0)).get? h1.objs.size = some (seqObj "list" vs.toArray 0) := Heap.get?_push_size _ rfl
  have keep : ∀ b o, s.heap.get? b = some o → b ≠ h1.objs.size ∧ (h1.push (seqObj "list" vs.toArray 0)).get? b = some o := fun b o q =>
    ⟨Nat.ne_of_lt (Heap.lt_size (k1 b o q)), Heap.get?_push_of_some _ (k1 b o q)⟩
  show wpAny _ _ _ _ _ { s with heap := h1.push (seqObj "list" vs.toArray 0), toks := tk }
  refine wpAny_bind (wpAny_holding (wpAny_call_entry_kw slot_list_sort ⟨_, hoL, rfl⟩ entry_list_sort ?_ (ha2 _)))
  rw [hk]
  refine SrtR.list_sort_ordR O hoL hz (fun h2 => hS h2 _ tk _ hoL keep) fun out hs hb => ⟨_, rfl, ?_⟩
  refine wpAny_pure ⟨_, rfl, h h1 _ tk h1.objs.size out hs hb k1 (fun b u e => ?_) (Nat.le_refl _) (sortedHeap_at (vs := vs) hoL)⟩
  rw [sortedHeap_old (Nat.ne_of_lt (Heap.lt_size e)) (by rw [size_push']; exact Nat.lt_succ_of_lt (Heap.lt_size e))]
  exact Heap.get?_push_of_some _ e
end
/-- sorted of a dict's keys, tuples of ints, by reverse=b -/
def rSortedDT (b : Bool) (zs0 : List V) : List V → List V → Hp → VK → Prop := fun vs zs H Q => ∃ (a : Addr) (kvs : List (List Key × V)) (m : Nat), 0 < m ∧ vs = [V.ref a] ∧ zs = zs0 ∧ Rd H a (.dT kvs) ∧ (∀ p ∈ kvs, ∃ ns : List Int, p.1 = kI ns ∧ ns.length = m) ∧
  ∀ bs ys p, IsKeys H kvs bs → ys.Perm (bs.map V.ref) → (if b = true then ys.reverse else ys).Pairwise (fun x y => HT.lexLt (keyV H y) (keyV H x) = false) → H p = none → Q (.ref p) (upd H p (.lst ys))
section
variable {X : Cx}
theorem sortedDT_run {b : Bool} {kw : List (Str × Value)} {pins : List (Addr × Obj)} {s : Shared} {σ : L2.St} {H : Hp} {a : Addr} {kvs : List (List Key × V)} {m : Nat} {Q : VK} (hc : X.calm = true) (I : Inv X pins σ H s) (hm0 : 0 < m) (hd : Rd H a (.dT kvs)) (hks : ∀ p ∈ kvs, ∃ ns : List Int, p.1 = kI ns ∧ ns.length = m)
    (hk : ∀ a, Builtin.«list.sort» ⟨[.ref a], kw⟩ = Builtin.«list.sort» ⟨[.ref a], [(Str.ofString "reverse", .bool b)]⟩) (ha1 : argsOk "sorted" ⟨[.ref a], kw⟩) (ha2 : ∀ a, argsOk "list.sort" ⟨[a], kw⟩)
    (q : ∀ bs ys p, IsKeys H kvs bs → ys.Perm (bs.map V.ref) → (if b = true then ys.reverse else ys).Pairwise (fun x y => HT.lexLt (keyV H y) (keyV H x) = false) → H p = none → Q (.ref p) (upd H p (.lst ys))) : wpAny (model X.prog X.w) X.A (call (.builtin "sorted") [.ref a] kw) (EP X pins σ Q) X.xe s := by
  obtain ⟨z, hs, ks, pr, o, es, ep, ho, hx, hdt, he, hn⟩ := (show ObjOk X.prog X.w H s.heap a (.dT kvs) from hd.ok I.hok)
  have l1 : es.size = ks.length := size_of_entries he
  have l2 : kvs.length = ks.length := Paired.length pr
  have ik := isKeys_of pr
  -- the key tuples
  have hts : ∀ v ∈ (ks.map fun x => x.2.1).map Value.ref, ∃ (t : Addr) (ns : List Int), v = .ref t ∧ H t = some (.tup (ns.map V.int)) ∧ ns.length = m := fun v hv => by
    obtain ⟨t, ht, rfl⟩ := List.mem_map.mp hv
    obtain ⟨i, hi⟩ := List.getElem?_of_mem ht
    have hi2 : i < kvs.length := by
      have := (List.getElem?_eq_some_iff.mp hi).1
      rw [List.length_map] at this; omega
    obtain ⟨ns, e1, e2⟩ := hks _ (List.getElem_mem hi2)
    have : H t = some (.tup ((kvs[i]).1.map kV)) := by
      have aux : ∀ {l1 : List (List Key × V)} {l2 : List Addr} {i : Nat} {t : Addr} {p : List Key × V}, Paired (fun (p : List Key × V) (b : Addr) => H b = some (.tup (p.1.map kV))) l1 l2 → l2[i]? = some t → l1[i]? = some p → H t = some (.tup (p.1.map kV)) := by
        intro l1 l2 i t p hp
        induction hp generalizing i with
        | nil => intro h; simp at h
        | cons r _ ih =>
          intro h1 h2
          cases i with
          | zero => simp at h1 h2; subst h1 h2; exact r
          | succ i => exact ih (by simpa using h1) (by simpa using h2)
      exact aux ik hi (List.getElem?_eq_getElem hi2)
    rw [e1, kI_kV] at this
    exact ⟨t, ns, rfl, this, e2⟩
  have tupAt : ∀ {h' : Heap}, (∀ b o, s.heap.get? b = some o → h'.get? b = some o) → ∀ v ∈ (ks.map fun x => x.2.1).map Value.ref, IsTupI h' v (keyV H (backV v)) ∧ (keyV H (backV v)).length = m := fun {h'} kk v hv => by
    obtain ⟨t, ns, rfl, ht, hl⟩ := hts v hv
    obtain ⟨_, its2, r2, o2, ho2, hc2, n, hd2⟩ := I.hok _ _ ht
    have hkk : keyV H (backV (Value.ref t)) = ns := keyV_of ht
    rw [hkk]
    exact ⟨⟨t, o2, its2, n, rfl, kk _ _ ho2, hc2, hd2, r2.ints⟩, hl⟩
  refine sorted_of (vs := (ks.map fun x => x.2.1).map Value.ref) (ltv := fun v u => HT.lexLt (keyV H (backV v)) (keyV H (backV u))) hk ha1 ha2 (NtL.swo_lexL _) (fun R hR => ?_) (by rw [List.length_map, List.length_map]; omega) (fun h2 h₁ tk a' ha' kk => ?_) fun h0 h' tk d out h1 h2 kp0 kp hd' hn' => ?_
  · refine PySem.W.kdu_collect (A := X.A.in1) (kdl_raw hs hx hdt) (I.ok.hd hc) ho (by omega) fun h' tk acc kp it => ?_
    have ea : acc.toList = ks.map fun x => Value.ref x.2.1 := by
      have hl : acc.toList.length = ks.length := by rw [Array.length_toList, it.1]; exact l1
      apply List.ext_getElem?
      intro j
      rw [List.getElem?_map]
      cases hj : acc.toList[j]? with
      | none =>
        have h1 := List.getElem?_eq_none_iff.mp hj
        rw [List.getElem?_eq_none (by omega)]
        all_goals rfl
      | some v =>
        obtain ⟨en, hen, hv⟩ := it.2 j v (by rw [← Array.getElem?_toList]; exact hj)
        have qe := entry_at he j
        rw [hen] at qe
        cases hb : ks[j]? with
        | none => rw [hb] at qe; exact nomatch (show some en = none from qe)
        | some b =>
          rw [hb] at qe
          have e2 : en = entryOfKey (tupleKind (mixKind X.prog X.w)) b := Option.some.inj qe
          rw [hv, e2]
          all_goals rfl
    have := hR h' tk kp
    rw [List.map_map] at this
    rw [ea]; exact this
  · refine tupI_sortable (s := { s with heap := h₁, toks := tk }) (k := fun v => keyV H (backV v)) hm0 (by omega) (fun v hv => tupAt (fun b o e => (kk b o e).2) v hv) fun o' e => ?_
    have e' : some o' = some (seqObj "list" ((ks.map fun x => x.2.1).map Value.ref).toArray 0) := e.symm.trans ha'
    cases e'
    exact fun c => absurd (Value.type.inj c) (by decide)
  · have h3 : ∀ u ∈ out, ∃ a, u = Value.ref a := fun u hu => by
      have := h2.perm.mem_iff.mp hu
      have : u ∈ (ks.map fun x => x.2.1).map Value.ref := by cases b with
        | true => exact List.mem_reverse.mp this
        | false => exact this
      obtain ⟨t, _, e⟩ := List.mem_map.mp this
      exact ⟨t, e.symm⟩
    obtain ⟨n, hn'⟩ := hn'
    have hp0 : (out.map backV).Perm ((ks.map fun x => x.2.1).map V.ref) := by
      have e1 : (ks.map fun x => x.2.1).map V.ref = ((ks.map fun x => x.2.1).map Value.ref).map backV := by simp only [List.map_map]; rfl
      rw [e1]
      refine (h2.perm.map backV).trans ?_
      cases b with
      | true => exact (List.reverse_perm _).map backV
      | false => exact List.Perm.refl _
    have hord : (out.map backV).Pairwise (fun x y => HT.lexLt (keyV H y) (keyV H x) = false) := List.pairwise_map.mpr h1
    have hlen : (out.map backV).length ≤ sizeLine := by rw [hp0.length_eq, List.length_map, List.length_map]; omega
    have I1 : Inv X pins σ H { s with heap := h0, toks := tk } := I.kept kp0
    have hn0 : H d = none := I1.hok.fresh hd'
    cases b with
    | false =>
      refine ⟨.ref d, upd H d (.lst (out.map backV)), I1.laid (t' := tk) kp hd' ⟨hlen, out, n, vals_back h3, hn'⟩, rfl, q _ _ d ik hp0 hord hn0⟩
    | true =>
      have hn2 : h'.get? d = some (seqObj "list" out.reverse.toArray n) := by simpa using hn'
      refine ⟨.ref d, upd H d (.lst (out.reverse.map backV)), I1.laid (t' := tk) kp hd' ⟨by rw [List.map_reverse, List.length_reverse]; exact hlen, out.reverse, n, vals_back (fun u hu => h3 u (List.mem_reverse.mp hu)), hn2⟩, rfl, q _ _ d ik ?_ ?_ hn0⟩
      · rw [List.map_reverse]; exact (List.reverse_perm _).trans hp0
      · rw [if_pos rfl, List.map_reverse, List.reverse_reverse]; exact hord
theorem cr_sortedDTR (hc : X.calm = true) {b : Bool} : CallRK X (.builtin "sorted") [Str.ofString "reverse"] (rSortedDT b [.bl b]) := by
  intro pins s σ H vs zs us ws Q I r rz h
  obtain ⟨a, kvs, m, hm0, rfl, rfl, hd, hks, q⟩ := h
  obtain rfl := Vals.ref1 r
  obtain ⟨w1, rfl, e1⟩ := vals1 rz
  obtain rfl : w1 = Value.bool b := e1
  exact sortedDT_run hc I hm0 hd hks (fun _ => rfl) (PyProof.Rows.args_sorted_rev _ _) (fun _ => PyProof.Rows.args_list_sort_rev _ _) q
variable {σ : L2.St} {F M H : Hp} {a b c e : Expr} {pos p p2 : Pos} {κ α β : Type} [DecidableEq κ] {rk : Rep κ} [t : TupB rk] {r : Rep α} {n : Str} {rest : List Stmt} {D : Ends}
theorem pw_rev {α : Type} {R : α → α → Prop} {xs : List α} (h : xs.reverse.Pairwise R) : xs.Pairwise fun x y => R y x := by rw [List.pairwise_reverse] at h; exact h
/-- sorted(d, reverse=True) -/
theorem en_sortedDTR {kvs : List (κ × α)} {j} {q1 kp : Pos} [mk : Mono rk] (hc : X.calm = true) (hm : X.mg "sorted" = none) (ha : EvF X a σ F M (rdT M rk r) kvs) (hg : Gl X "sorted" := by rfl)
    (he : backTo pos (starEach [a] X.env) = (false, eval a X.env) :: backTo pos (starEach [] X.env) := by rfl) (hpl : (backTo pos (starEach [a] X.env)).any (·.1) = false := by rfl) (he0 : starEach [a] X.env = (false, eval a X.env) :: starEach [] X.env := by rfl)
    (hall : (backToKw pos (keywordEach [⟨some "reverse", .Constant (.bool true) j q1, kp⟩] X.env)).all (·.1.isSome) = true := by rfl) (hnone : (backToKw pos (keywordEach [⟨some "reverse", .Constant (.bool true) j q1, kp⟩] X.env)).any (·.1.isNone) = false := by rfl) (hks : (backToKw pos (keywordEach [⟨some "reverse", .Constant (.bool true) j q1, kp⟩] X.env)).filterMap (·.1) = [Str.ofString "reverse"] := by rfl) :
    EvN X (.Call (.Name "sorted" p) [a] [⟨some "reverse", .Constant (.bool true) j q1, kp⟩] pos) σ F M rk (srtK t.key (kvs.map (·.1))).reverse :=
  fun F1 H1 s w Q q => we_of (pe_callBK (cr_sortedDTR hc (b := true)) hg hm (by decide +kernel) (pa_cons (pe_w a) pa_nil he0) (pk_cons pe_bl pk_nil) (he := he) (hpl := hpl) (hall := hall) (hnone := hnone) (hks := hks)) (ha F1 H1 s w _ fun F2 H2 v s2 w2 ⟨l, ks, e, hl, hk⟩ => by
    refine ⟨l, ks, t.m, t.pos, by rw [e], rfl, rdT.rd w2 hl, fun p hp => ?_, fun bs ys d hbs hp ho hd => ?_⟩
    · obtain ⟨i, hi⟩ := List.getElem?_of_mem hp
      obtain ⟨x, hx, h1⟩ := hk.1.getL hi
      exact ⟨t.key x.1, h1.1, t.len _⟩
    · -- the keys as they stand
      have w3 := w2.tups
      have kb : A2 (rk (tupF F2 H2)) (bs.map V.ref) (kvs.map (·.1)) := by
        clear hp ho
        have aux : ∀ {ks : List (List Key × V)} {kvs : List (κ × α)} {bs : List Addr}, A2 (fun p q => p.1 = kI (t.key q.1) ∧ r F2 p.2 q.2) ks kvs → IsKeys H2 ks bs → A2 (rk (tupF F2 H2)) (bs.map V.ref) (kvs.map (·.1)) := by
          intro ks kvs bs h1 h2
          induction h1 generalizing bs with
          | nil => cases h2; exact .nil
          | cons q _ ih =>
            cases h2 with
            | cons r1 r2 =>
              refine .cons (t.back (tupF_at w2 ?_)) (ih r2)
              rw [r1, q.1, kI_kV]
        exact aux hk.1 hbs
      have nd := hk.2
      -- the sorted ones
      obtain ⟨zs, hz2, hz1⟩ := A2.perm hp kb
      have hkey : ∀ {v : V} {x : κ}, rk (tupF F2 H2) v x → keyV H2 v = t.key x := fun {v x} h => by
        obtain ⟨b, rfl, hb⟩ := t.tup h
        exact keyV_of (w3.f _ _ hb)
      have ho2 : ys.reverse.Pairwise (fun x y => HT.lexLt (keyV H2 y) (keyV H2 x) = false) := by simpa using ho
      have hpz : zs.reverse.Pairwise (fun x y => HT.lexLt (t.key y) (t.key x) = false) := hz1.rev.pw (fun a b a' b' h1 h2 h3 => by rw [← hkey h1, ← hkey h2]; exact h3) ho2
      have ez : zs.reverse = srtK t.key (kvs.map (·.1)) := srtK_uniq (fun x _ => t.len x) t.inj ((List.reverse_perm _).trans hz2) hpz
      have ez2 : zs = (srtK t.key (kvs.map (·.1))).reverse := by rw [← ez, List.reverse_reverse]
      subst ez2
      exact q (tupF F2 H2) _ d ys (s2.trans tupF_same) ⟨same_in w3.f (w3.noF hd), same_in w3.m (w3.noM hd), w3.d, w3.t⟩ (w3.noF hd) (w3.noM hd) upd_same hz1)
/-! one's own list: x.extend(e), x.reverse(), x.clear() -/
theorem ss_ext {α : Type} {r : Rep α} {l : Addr} {vs : List V} {xs : List α} [m : Mono r] (i : Nat) {cpos apos npos : Pos} (hs : σ[i]? = some (some (.ref l))) (hM : M l = some (.lst vs)) (he : EvF X e σ F M (rtR M r) xs) (w : Own F M H) (hz : vs.length + xs.length ≤ 1000000)
    (k : ∀ F2 M2 H2 us, Same F F2 → M2 = upd M l (.lst (vs ++ us)) → Own F2 M2 H2 → A2 (r F2) us xs → WSs X rest D σ H2) (hN : X.N[i]? = some n := by rfl)
    (hv : Vis X.env.scope n := by first | exact Or.inl rfl | exact Or.inr (Or.inl rfl) | exact Or.inr (Or.inr rfl)) (hd : (n == ("__debug__" : Str)) = false := by decide) (hcd : (n == ("__classdict__" : Str)) = false := by decide)
    (hbase : attributeBase (.Name n npos) "extend" X.env (eval (.Name n npos) X.env) = eval (.Name n npos) X.env := by rfl)
    (hfew : ((backTo cpos (starEach [e] X.env)).all (fun x => !x.1) && (backToKw cpos (keywordEach [] X.env)).all (fun x => x.1.isSome)
      && decide ([e].length + ([] : List Keyword).length + (if ([] : List Keyword).isEmpty then 0 else 1) < 30)) = true := by rfl)
    (hline : (apos.endLine == cpos.line) = true := by rfl) (hst : starEach [e] X.env = (false, eval e X.env) :: starEach [] X.env := by rfl) (hplain : (backTo cpos (starEach [] X.env)).any (·.1) = false := by rfl)
    (hsw : swapsWith (.Call (.Attribute (.Name n npos) "extend" apos) [e] [] cpos) none pos.line X.env = pure false := by rfl) :
    WSs X (.Expr (.Call (.Attribute (.Name n npos) "extend" apos) [e] [] cpos) pos :: rest) D σ H :=
  wss_cons (ws_of (ps_expr (pe_bm PySem.F.plainAttrs_list PySem.F.slot_list_extend PySem.F.type_list_extend mt_extend (pe_var hN hv hd hcd) (pa_cons (pe_w e) pa_nil hst) hbase hfew hline hst hplain) hsw)
    ⟨_, hs, .inl ⟨rfl, _, SqL.of (w.m _ _ hM)⟩, he F H (Same.refl _) w _ fun F2 H2 v s2 w2 ⟨b, us, eb, hb, hA⟩ => ⟨l, b, vs, us, rfl, by rw [eb], w2.m _ _ hM, hb.elim (fun q => w2.f _ _ q) (fun q => w2.m _ _ q), Nat.le_trans (by rw [hA.len]; exact hz) (by decide), k F2 _ _ us s2 rfl (w2.put hM) hA⟩⟩)
theorem ss_rvs {l : Addr} {vs : List V} (i : Nat) {cpos apos npos : Pos} (hs : σ[i]? = some (some (.ref l))) (hM : M l = some (.lst vs)) (w : Own F M H)
    (k : ∀ M2 H2, M2 = upd M l (.lst vs.reverse) → Own F M2 H2 → WSs X rest D σ H2) (hN : X.N[i]? = some n := by rfl)
    (hv : Vis X.env.scope n := by first | exact Or.inl rfl | exact Or.inr (Or.inl rfl) | exact Or.inr (Or.inr rfl)) (hd : (n == ("__debug__" : Str)) = false := by decide) (hcd : (n == ("__classdict__" : Str)) = false := by decide)
    (hbase : attributeBase (.Name n npos) "reverse" X.env (eval (.Name n npos) X.env) = eval (.Name n npos) X.env := by rfl) (hline : (apos.endLine == cpos.line) = true := by rfl)
    (hsw : swapsWith (.Call (.Attribute (.Name n npos) "reverse" apos) [] [] cpos) none pos.line X.env = pure false := by rfl) :
    WSs X (.Expr (.Call (.Attribute (.Name n npos) "reverse" apos) [] [] cpos) pos :: rest) D σ H :=
  wss_cons (ws_of (ps_expr (pe_bm0 PySem.F.plainAttrs_list PySem.F.slot_list_reverse PySem.F.type_list_reverse mt_reverse (pe_var hN hv hd hcd) hbase hline) hsw)
    ⟨_, hs, .inl ⟨rfl, _, SqL.of (w.m _ _ hM)⟩, l, vs, rfl, rfl, w.m _ _ hM, k _ _ rfl (w.put hM)⟩)
theorem ss_clr {l : Addr} {vs : List V} (i : Nat) {cpos apos npos : Pos} (hs : σ[i]? = some (some (.ref l))) (hM : M l = some (.lst vs)) (w : Own F M H)
    (k : ∀ M2 H2, M2 = upd M l (.lst []) → Own F M2 H2 → WSs X rest D σ H2) (hN : X.N[i]? = some n := by rfl)
    (hv : Vis X.env.scope n := by first | exact Or.inl rfl | exact Or.inr (Or.inl rfl) | exact Or.inr (Or.inr rfl)) (hd : (n == ("__debug__" : Str)) = false := by decide) (hcd : (n == ("__classdict__" : Str)) = false := by decide)
    (hbase : attributeBase (.Name n npos) "clear" X.env (eval (.Name n npos) X.env) = eval (.Name n npos) X.env := by rfl) (hline : (apos.endLine == cpos.line) = true := by rfl)
    (hsw : swapsWith (.Call (.Attribute (.Name n npos) "clear" apos) [] [] cpos) none pos.line X.env = pure false := by rfl) :
    WSs X (.Expr (.Call (.Attribute (.Name n npos) "clear" apos) [] [] cpos) pos :: rest) D σ H :=
  wss_cons (ws_of (ps_expr (pe_bm0 PySem.F.plainAttrs_list PySem.F.slot_list_clear PySem.F.type_list_clear mt_clear (pe_var hN hv hd hcd) hbase hline) hsw)
    ⟨_, hs, .inl ⟨rfl, _, SqL.of (w.m _ _ hM)⟩, l, vs, rfl, rfl, w.m _ _ hM, k _ _ rfl (w.put hM)⟩)
end
end Y

/-! ### instances that stand for good: parts -/
namespace Y
open PySem PySem.Spec PyProof.Rows L2
inductive PKind | tone | rest | row | rep | shift | stretch | beside
  deriving DecidableEq, Inhabited
structure Meas where
  cells : Int
  leaves : Int
  size : Int
  depth : Int
  low : Option Int
  high : Option Int
  deriving DecidableEq, Inhabited
/-- a part: its kind, its number, what is within it, its measures -/
inductive PT | mk (k : PKind) (n : Int) (inner : List PT) (m : Meas)
instance : Inhabited PT := ⟨.mk .rest 0 [] default⟩
def PT.k : PT → PKind | .mk k _ _ _ => k
def PT.n : PT → Int | .mk _ n _ _ => n
def PT.inner : PT → List PT | .mk _ _ ts _ => ts
def PT.m : PT → Meas | .mk _ _ _ m => m
def oV : Option Int → V
  | none => .non
  | some i => .int i
theorem oV_rep {F : Hp} {x : Option Int} : oR iR F (oV x) x := by cases x <;> exact rfl
def pextra : PKind → Int → List (Str × V)
  | .tone, n => [("pitch", .int n)]
  | .rep, n => [("many", .int n)]
  | .shift, n => [("by", .int n)]
  | .stretch, n => [("by", .int n)]
  | _, _ => []
def pflds (k : PKind) (n : Int) (l : Addr) (m : Meas) : List (Str × V) :=
  ("inner", .ref l) :: ("long", .int m.cells) :: ("written", .int m.leaves) :: ("held", .int m.size) :: ("deep", .int m.depth) :: ("low", oV m.low) :: ("high", oV m.high) :: pextra k n
inductive PR (pc : PKind → Addr) (F : Hp) : V → PT → Prop
  | mk {p dx l : Addr} {vs : List V} {k : PKind} {n : Int} {ts : List PT} {m : Meas} : F p = some (.ins (pc k) dx (pflds k n l m)) → F l = some (.lst vs) → vs.length = ts.length → (∀ (i : Nat) (v : V) (t : PT), vs[i]? = some v → ts[i]? = some t → PR pc F v t) → PR pc F (.ref p) (.mk k n ts m)
abbrev pR (pc : PKind → Addr) : Rep PT := fun F v t => PR pc F v t
instance {pc : PKind → Addr} : Mono (pR pc) := ⟨fun {F F' v x} e h => by
  induction h with
  | mk h1 h2 h3 _ ih => exact .mk (e.ins h1) (e.lst h2) h3 ih⟩
theorem A2.of_get {α β : Type} {p : α → β → Prop} : ∀ {as : List α} {bs : List β}, as.length = bs.length → (∀ (i : Nat) (a : α) (b : β), as[i]? = some a → bs[i]? = some b → p a b) → A2 p as bs
  | [], [], _, _ => .nil
  | [], _ :: _, h, _ => by simp at h
  | _ :: _, [], h, _ => by simp at h
  | a :: as, b :: bs, h, f => .cons (f 0 a b rfl rfl) (A2.of_get (by simpa using h) fun i x y hx hy => f (i + 1) x y (by simpa using hx) (by simpa using hy))
theorem PR.at {pc : PKind → Addr} {F : Hp} {v : V} {t : PT} (h : PR pc F v t) : ∃ p dx l vs, v = .ref p ∧ F p = some (.ins (pc t.k) dx (pflds t.k t.n l t.m)) ∧ F l = some (.lst vs) ∧ A2 (pR pc F) vs t.inner := by
  cases h with
  | mk h1 h2 h3 h4 => exact ⟨_, _, _, _, rfl, h1, h2, A2.of_get h3 h4⟩
theorem PR.of {pc : PKind → Addr} {F : Hp} {p dx l : Addr} {vs : List V} {k : PKind} {n : Int} {ts : List PT} {m : Meas} (h1 : F p = some (.ins (pc k) dx (pflds k n l m))) (h2 : F l = some (.lst vs)) (h : A2 (pR pc F) vs ts) : PR pc F (.ref p) (.mk k n ts m) :=
  .mk h1 h2 h.len fun i v t hv ht => by
    obtain ⟨a, ha, hp⟩ := h.get ht
    rw [hv] at ha; cases ha; exact hp
instance {pc : PKind → Addr} : NotN (pR pc) := ⟨fun h => by cases h; intro z; cases z⟩
def partNames : List Str := ["inner", "long", "written", "held", "deep", "low", "high", "pitch", "many", "by"]
/-- what the parts' classes say -/
structure PCls (K : PySem.W.Frag) (pc : PKind → Addr) : Prop where
  c : ∀ k, Cls K (pc k)
  n : ∀ k, ∀ f ∈ partNames, NoAttr K (pc k) f
section
variable {X : Cx} {σ : L2.St} {F M H : Hp} {a b c e o : Expr} {es : List Expr} {pos p p1 p2 apos : Pos} {α β : Type} {r : Rep α} {n f : Str} {k : Nat} {rest : List Stmt} {D : Ends} {pc : PKind → Addr}
/-- e.f -/
theorem ev_fld {Φ : Hp → V → Prop} (he : Ev X e σ F M fun F u => ∃ a C dx fs v, u = .ref a ∧ F a = some (.ins C dx fs) ∧ Cls X.K C ∧ NoAttr X.K C f ∧ fs.lookup f = some v ∧ Φ F v) (hb : attributeBase e f X.env (eval e X.env) = eval e X.env := by rfl) : Ev X (.Attribute e f pos) σ F M Φ :=
  fun F1 H1 s w Q q => we_of (pe_fld (pe_w e) hb) (he F1 H1 s w _ fun F2 H2 v s2 w2 ⟨a, C, dx, fs, u, e1, h1, c1, n1, l1, h⟩ => ⟨a, C, dx, fs, u, e1, w2.f _ _ h1, c1, n1, l1, q F2 H2 u s2 w2 h⟩)
theorem ev_inner {t : PT} (T : PCls X.K pc) (he : EvF X e σ F M (pR pc) t) (hb : attributeBase e "inner" X.env (eval e X.env) = eval e X.env := by rfl) : EvF X (.Attribute e "inner" pos) σ F M (lR (pR pc)) t.inner :=
  ev_fld (he.imp fun F v h => let ⟨p, dx, l, vs, e1, h1, h2, h3⟩ := PR.at h; ⟨p, _, dx, _, .ref l, e1, h1, T.c _, T.n _ _ (by decide), rfl, l, vs, rfl, h2, h3⟩) hb
theorem ev_long {t : PT} (T : PCls X.K pc) (he : EvF X e σ F M (pR pc) t) (hb : attributeBase e "long" X.env (eval e X.env) = eval e X.env := by rfl) : EvF X (.Attribute e "long" pos) σ F M iR t.m.cells :=
  ev_fld (he.imp fun F v h => let ⟨p, dx, l, vs, e1, h1, h2, h3⟩ := PR.at h; ⟨p, _, dx, _, _, e1, h1, T.c _, T.n _ _ (by decide), rfl, rfl⟩) hb
theorem ev_written {t : PT} (T : PCls X.K pc) (he : EvF X e σ F M (pR pc) t) (hb : attributeBase e "written" X.env (eval e X.env) = eval e X.env := by rfl) : EvF X (.Attribute e "written" pos) σ F M iR t.m.leaves :=
  ev_fld (he.imp fun F v h => let ⟨p, dx, l, vs, e1, h1, h2, h3⟩ := PR.at h; ⟨p, _, dx, _, _, e1, h1, T.c _, T.n _ _ (by decide), rfl, rfl⟩) hb
theorem ev_held {t : PT} (T : PCls X.K pc) (he : EvF X e σ F M (pR pc) t) (hb : attributeBase e "held" X.env (eval e X.env) = eval e X.env := by rfl) : EvF X (.Attribute e "held" pos) σ F M iR t.m.size :=
  ev_fld (he.imp fun F v h => let ⟨p, dx, l, vs, e1, h1, h2, h3⟩ := PR.at h; ⟨p, _, dx, _, _, e1, h1, T.c _, T.n _ _ (by decide), rfl, rfl⟩) hb
theorem ev_deep {t : PT} (T : PCls X.K pc) (he : EvF X e σ F M (pR pc) t) (hb : attributeBase e "deep" X.env (eval e X.env) = eval e X.env := by rfl) : EvF X (.Attribute e "deep" pos) σ F M iR t.m.depth :=
  ev_fld (he.imp fun F v h => let ⟨p, dx, l, vs, e1, h1, h2, h3⟩ := PR.at h; ⟨p, _, dx, _, _, e1, h1, T.c _, T.n _ _ (by decide), rfl, rfl⟩) hb
theorem ev_low {t : PT} (T : PCls X.K pc) (he : EvF X e σ F M (pR pc) t) (hb : attributeBase e "low" X.env (eval e X.env) = eval e X.env := by rfl) : EvF X (.Attribute e "low" pos) σ F M (oR iR) t.m.low :=
  ev_fld (he.imp fun F v h => let ⟨p, dx, l, vs, e1, h1, h2, h3⟩ := PR.at h; ⟨p, _, dx, _, _, e1, h1, T.c _, T.n _ _ (by decide), rfl, oV_rep⟩) hb
theorem ev_high {t : PT} (T : PCls X.K pc) (he : EvF X e σ F M (pR pc) t) (hb : attributeBase e "high" X.env (eval e X.env) = eval e X.env := by rfl) : EvF X (.Attribute e "high" pos) σ F M (oR iR) t.m.high :=
  ev_fld (he.imp fun F v h => let ⟨p, dx, l, vs, e1, h1, h2, h3⟩ := PR.at h; ⟨p, _, dx, _, _, e1, h1, T.c _, T.n _ _ (by decide), rfl, oV_rep⟩) hb
theorem ev_pitch {t : PT} (T : PCls X.K pc) (he : EvF X e σ F M (pR pc) t) (hk : t.k = .tone) (hb : attributeBase e "pitch" X.env (eval e X.env) = eval e X.env := by rfl) : EvF X (.Attribute e "pitch" pos) σ F M iR t.n :=
  ev_fld (he.imp fun F v h => let ⟨p, dx, l, vs, e1, h1, h2, h3⟩ := PR.at h; ⟨p, _, dx, _, _, e1, h1, T.c _, T.n _ _ (by decide), by rw [hk]; rfl, rfl⟩) hb
theorem ev_many {t : PT} (T : PCls X.K pc) (he : EvF X e σ F M (pR pc) t) (hk : t.k = .rep) (hb : attributeBase e "many" X.env (eval e X.env) = eval e X.env := by rfl) : EvF X (.Attribute e "many" pos) σ F M iR t.n :=
  ev_fld (he.imp fun F v h => let ⟨p, dx, l, vs, e1, h1, h2, h3⟩ := PR.at h; ⟨p, _, dx, _, _, e1, h1, T.c _, T.n _ _ (by decide), by rw [hk]; rfl, rfl⟩) hb
theorem ev_by {t : PT} (T : PCls X.K pc) (he : EvF X e σ F M (pR pc) t) (hk : t.k = .shift ∨ t.k = .stretch) (hb : attributeBase e "by" X.env (eval e X.env) = eval e X.env := by rfl) : EvF X (.Attribute e "by" pos) σ F M iR t.n :=
  ev_fld (he.imp fun F v h => let ⟨p, dx, l, vs, e1, h1, h2, h3⟩ := PR.at h; ⟨p, _, dx, _, _, e1, h1, T.c _, T.n _ _ (by decide), by rcases hk with hk | hk <;> (rw [hk]; rfl), rfl⟩) hb
/-! methods without arguments -/
theorem ev_pmeth {fd : FuncData} {ps : List Str} {fa : Addr} {pre : PT × Unit → Prop} {R : PT × Unit → Hp → V → Prop} {t : PT} (T : PCls X.K pc) (hm : Meth X.K (pc t.k) n fa) (G : FnOk X.prog X.w X.K X.mg X.base CX0 k fa fd ps (FSp (ac (pR pc) an) pre R)) (hr : Room k X.A) (hb : Binds X.K fd ps [])
    (he : EvF X o σ F M (pR pc) t) (hp : pre (t, ())) (hn : ∀ (k : PKind) (i : Int) (l : Addr) (m : Meas), (pflds k i l m).lookup n = none := by intro k i l m; cases k <;> rfl) {pl : Sem Bool}
    (ht : eval (.Call (.Attribute o n apos) [] [] pos) X.env = (do
      let ov ← eval o X.env
      standAt apos.atName
      let (f, first) ← holding [ov] (getMethod ov n pl)
      callWith pos f first (backTo pos (starEach [] X.env)) (backToKw pos (keywordEach [] X.env))) := by rfl) :
    Ev X (.Call (.Attribute o n apos) [] [] pos) σ F M (R (t, ())) :=
  fun F1 H1 s w Q q => we_of (pe_meth0 (pl := pl) (pe_w o) (T.c _) hm G hr hb .nil pass0 ht) (he F1 H1 s w _ fun F2 H2 v s2 w2 hv => by
    obtain ⟨p, dx, l, vs, e1, h1, h2, h3⟩ := PR.at hv
    exact ⟨p, dx, _, e1, w2.f _ _ h1, hn _ _ _ _, F2, M, (t, ()), ⟨v, [], by rw [e1]; rfl, hv, rfl⟩, hp, w2, fun F3 H3 u s3 w3 h => q F3 H3 u (s2.trans s3) w3 h⟩)
theorem en_pmeth {fd : FuncData} {ps : List Str} {fa : Addr} {pre : PT × Unit → Prop} {R : PT × Unit → List α → Prop} {t : PT} (T : PCls X.K pc) (hm : Meth X.K (pc t.k) n fa) (G : FnOk X.prog X.w X.K X.mg X.base CX0 k fa fd ps (FSpN (ac (pR pc) an) pre r R)) (hr : Room k X.A) (hb : Binds X.K fd ps [])
    (he : EvF X o σ F M (pR pc) t) (hp : pre (t, ())) (hn : ∀ (k : PKind) (i : Int) (l : Addr) (m : Meas), (pflds k i l m).lookup n = none := by intro k i l m; cases k <;> rfl) {pl : Sem Bool}
    (ht : eval (.Call (.Attribute o n apos) [] [] pos) X.env = (do
      let ov ← eval o X.env
      standAt apos.atName
      let (f, first) ← holding [ov] (getMethod ov n pl)
      callWith pos f first (backTo pos (starEach [] X.env)) (backToKw pos (keywordEach [] X.env))) := by rfl) :
    EvNP X (.Call (.Attribute o n apos) [] [] pos) σ F M r (R (t, ())) :=
  fun F1 H1 s w Q q => we_of (pe_meth0 (pl := pl) (pe_w o) (T.c _) hm G hr hb .nil pass0 ht) (he F1 H1 s w _ fun F2 H2 v s2 w2 hv => by
    obtain ⟨p, dx, l, vs, e1, h1, h2, h3⟩ := PR.at hv
    exact ⟨p, dx, _, e1, w2.f _ _ h1, hn _ _ _ _, F2, M, (t, ()), ⟨v, [], by rw [e1]; rfl, hv, rfl⟩, hp, w2, fun F3 H3 l vs ys s3 w3 n1 n2 hh h2 h3 => q F3 H3 l vs ys (s2.trans s3) w3 n1 n2 hh h2 h3⟩)
end
/-! ### making an instance -/
/-- an __init__'s promise: self is new and one's own, of a class of PC; at the end its attributes are fs -/
def FSpI {α : Type} (PC : Addr → Prop) (A : AR α) (pre : α → Prop) (post : α → Hp → List (Str × V) → Prop) (Rx : α → Hp → Value → Option Addr → Prop) : Sp := fun vs H Q E => ∃ F M C x dx us a, vs = .ref x :: us ∧ A F us a ∧ pre a ∧ PC C ∧ dx ≠ x ∧ M x = none ∧ M dx = none ∧ Own F (upd (upd M dx (.own x)) x (.ins C dx [])) H ∧
  (∀ F2 H2 fs, Same F F2 → Own F2 (upd (upd M dx (.own x)) x (.ins C dx fs)) H2 → post a F2 fs → Q .non H2) ∧ ∀ F2 H2 c d, Same F F2 → Own F2 M H2 → Rx a F2 c d → E c d H2
section
variable {X : Cx} {σ : L2.St} {F M H : Hp} {a b c e o : Expr} {es : List Expr} {pos p p1 p2 apos : Pos} {α β : Type} {r : Rep β} {n f : Str} {k : Nat} {rest : List Stmt} {D : Ends} {W : WX}
/-- C(e, ..), where its __init__ may raise -/
def tMkS (C : Addr) (sp : Sp) (E : L2.St → XK) (t : TA) : TE := fun σ H Q => t σ H fun vs H1 => ∀ x dx, H1 x = none → H1 dx = none → dx ≠ x → sp (.ref x :: vs) (upd (upd H1 dx (.own x)) x (.ins C dx [])) (fun v H2 => v = .non ∧ Q (.ref x) H2) (E σ)
theorem pe_mkS {CX : CXT} {fd : FuncData} {ps : List Str} {sp : Sp} {E : L2.St → XK} {C g : Addr} {t : TA} (K0 : Mk X.K C g) (G : FnOk X.prog X.w X.K X.mg X.base CX k g fd ps sp) (hr : Room (k + 1) X.A) (hg : Gl X n) (hm : X.mg n = some (.ref C)) (hb : Binds X.K fd ps []) (hx : ∀ σ, PassesAt CX X σ (E σ))
    (ha : PA X (e :: es) t) (hdb : (n == ("__debug__" : Str)) = false := by decide) (he : starEach (e :: es) X.env = (false, eval e X.env) :: starEach es X.env := by rfl) (hpl : (backTo pos (starEach es X.env)).any (·.1) = false := by rfl) :
    PE X (.Call (.Name n p) (e :: es) [] pos) (tMkS C sp E t) := by
  refine ⟨fun pins s σ H Q I h => wpAny_Call_Name_kw (ld_glob I hg hm ?_ hdb)⟩
  refine PySem.W.callWith_K (h₀ := X.base) I.ok.mod.kin K0.kp (L2.thn (ha.run pos pins s σ H _ I h) fun ws s1 ⟨vs, J, I1, rv, q⟩ => ⟨I1.kIn, ?_⟩) he hpl
  have q1 := q (s1.heap.objs.size + 1) s1.heap.objs.size (I1.hok.fresh (Nat.le_succ _)) (I1.hok.fresh (Nat.le_refl _)) (Nat.ne_of_lt (Nat.lt_succ_self _))
  have I2 := Inv.made (C := C) I1
  have r3 : Vals (V.ref (s1.heap.objs.size + 1) :: vs) (Value.ref (s1.heap.objs.size + 1) :: ws) := .cons rfl rv
  have hl : (Value.ref (s1.heap.objs.size + 1) :: ws ++ []).length = ps.length := by
    rw [List.append_nil, ← r3.length]; exact G.len _ _ _ _ q1
  have hbd := hb _ (Value.ref (s1.heap.objs.size + 1) :: ws) I2.kIn hl
  rw [List.append_nil] at hbd
  refine wpAny_call (make_map (f := g) I1.kIn K0.makes K0.init (beq_iff_eq.mp K0.fn) (codeAny_mono (G.run _ X.stack _ _ ⟨Value.ref (s1.heap.objs.size + 1) :: ws, []⟩ (Value.ref (s1.heap.objs.size + 1) :: ws) _ _ (E σ) (hr.make C ws [])
    (I2.env0.make C ws []) hbd r3 q1) fun fin s2 z => ?_))
  cases fin with
  | error e2 => exact hx σ pins _ _ e2 s2 I2 z
  | ok fl =>
    cases fl with
    | ret u =>
      obtain ⟨y, J2, I3, ry, ey, q3⟩ := I2.after z
      subst ey
      exact ⟨ry, V.ref (s1.heap.objs.size + 1), J2, I3, rfl, q3⟩
    | next => exact z.elim
    | brk => exact z.elim
    | cont => exact z.elim
theorem own_made {F M H : Hp} {x dx C : Addr} {fs : List (Str × V)} (w : Own F M H) (hx : H x = none) (hd : H dx = none) (ne : dx ≠ x) : Own F (upd (upd M dx (.own x)) x (.ins C dx fs)) (upd (upd H dx (.own x)) x (.ins C dx fs)) :=
  (w.newM hd).newM (by rw [upd_ne ne.symm]; exact hx)
theorem own_done {F M H : Hp} {x dx C : Addr} {fs : List (Str × V)} (w : Own F (upd (upd M dx (.own x)) x (.ins C dx fs)) H) (hx : M x = none) (hd : M dx = none) (ne : dx ≠ x) : Own (upd F x (.ins C dx fs)) M H :=
  (w.fz1 (by rw [upd_ne ne.symm]; exact hx)).lessM (same_new hd)
theorem ev_make {A : AR α} {fd : FuncData} {ps : List Str} {C g : Addr} {PC : Addr → Prop} {pre : α → Prop} {post : α → Hp → List (Str × V) → Prop} {Rx : α → Hp → Value → Option Addr → Prop} {x : α} {y : β} (tk : Takes X W) (K0 : Mk X.K C g) (G : FnOk X.prog X.w X.K X.mg X.base (L2.CX X.prog X.w) k g fd ps (FSpI PC A pre post Rx)) (hr : Room (k + 1) X.A) (hm : X.mg n = some (.ref C)) (hb : Binds X.K fd ps [])
    (hC : PC C) (ha : EvA X (e :: es) σ F M fun F vs => A F vs x) (hp : pre x) (hx : ∀ F2 H2 c d, Same F F2 → Own F2 M H2 → Rx x F2 c d → W c d σ H2)
    (hq : ∀ F2 q dx fs, F2 q = some (.ins C dx fs) → (∃ F0, Same F0 F2 ∧ post x F0 fs) → r F2 (.ref q) y)
    (hg : Gl X n := by rfl) (hdb : (n == ("__debug__" : Str)) = false := by decide) (he : starEach (e :: es) X.env = (false, eval e X.env) :: starEach es X.env := by rfl) (hpl : (backTo pos (starEach es X.env)).any (·.1) = false := by rfl) :
    EvF X (.Call (.Name n p) (e :: es) [] pos) σ F M r y :=
  fun F1 H1 s w Q q => we_of (pe_mkS K0 G hr hg hm hb (fun σ => passAt tk σ) (pa_w (e :: es)) hdb he hpl) (ha F1 H1 s w _ fun F2 H2 vs s2 w2 hv z dz nx nd ne =>
    ⟨F2, M, C, z, dz, vs, x, rfl, hv, hp, hC, ne, w2.noM nx, w2.noM nd, own_made w2 nx nd ne, fun F3 H3 fs s3 w3 h => ⟨rfl, by
      have hz : F3 z = none := w3.d z _ upd_same
      refine q (upd F3 z (.ins C dz fs)) H3 _ ((s2.trans s3).trans (same_new hz)) (own_done w3 (w2.noM nx) (w2.noM nd) ne) (hq _ z dz fs upd_same ⟨F3, same_new hz, h⟩)⟩, fun F3 H3 c d s3 w3 h => hx F3 H3 c d ((s.trans s2).trans s3) w3 h⟩)
/-- a class of one's own whose function is told by its name: B.__init__(self, ..) -/
structure BaseF (K : PySem.W.Frag) (B : Addr) (mc : Value) (m : Str) (g : Addr) : Prop where
  sp : PySem.W.specialIn K (.ref B) "__getattribute__" = some (some (.builtin "type.__getattribute__"))
  rd : PySem.W.readsIn K B mc = true
  fd : PySem.W.findCls K (.ref B) mc m = some (.val (.ref g))
  kp : PySem.W.keepIn K (.ref g) = true
theorem pe_cmeth {CX : CXT} {fd : FuncData} {ps : List Str} {sp : Sp} {E : L2.St → XK} {B g : Addr} {mc : Value} {m : Str} {t : TA} {pl : Sem Bool} (T : BaseF X.K B mc m g) (G : FnOk X.prog X.w X.K X.mg X.base CX k g fd ps sp) (hr : Room k X.A) (hg : Gl X n) (hm : X.mg n = some (.ref B)) (hb : Binds X.K fd ps []) (hx : ∀ σ, PassesAt CX X σ (E σ))
    (ha : PA X (e :: es) t) (hdb : (n == ("__debug__" : Str)) = false := by decide)
    (hc : eval (.Call (.Attribute (.Name n p1) m p2) (e :: es) [] pos) X.env = (do
      let ov ← eval (.Name n p1) X.env
      standAt p2.atName
      let (f, first) ← holding [ov] (getMethod ov m pl)
      callWith pos f first (backTo pos (starEach (e :: es) X.env)) (backToKw pos (keywordEach [] X.env))) := by rfl)
    (he : starEach (e :: es) X.env = (false, eval e X.env) :: starEach es X.env := by rfl) (hpl : (backTo pos (starEach es X.env)).any (·.1) = false := by rfl) :
    PE X (.Call (.Attribute (.Name n p1) m p2) (e :: es) [] pos) (tCallS sp E t) := by
  refine ⟨fun pins s σ H Q I h => PySem.W.methodCall_KW (ld_glob I hg hm ?_ hdb) hc⟩
  refine PySem.W.method_cls I.kIn T.sp (PySem.W.cls_value I.kIn T.rd T.fd rfl ?_)
  show wpAny _ _ (callWith pos (Value.ref g) [] (backTo pos (starEach (e :: es) X.env)) []) _ _ _
  refine PySem.W.callWith_K (h₀ := X.base) I.ok.mod.kin T.kp (L2.thn (ha.run pos pins _ σ H _ (I.tok _) h) fun ws s1 ⟨vs, J, I1, rv, q⟩ => ⟨I1.kIn, ?_⟩) he hpl
  exact run_fnS G hr hb (hx σ) I1 rv q
/-- B.__init__(self, e, ..) where self has no attributes yet -/
theorem ss_pinit {A : AR α} {fd : FuncData} {ps : List Str} {B g : Addr} {mc : Value} {PC : Addr → Prop} {pre : α → Prop} {post : α → Hp → List (Str × V) → Prop} {Rx : α → Hp → Value → Option Addr → Prop} {x : α} {q dx C : Addr} {sn : Str} {ps1 : Pos} (i : Nat) (tk : Takes X W) (T : BaseF X.K B mc "__init__" g) (G : FnOk X.prog X.w X.K X.mg X.base (L2.CX X.prog X.w) k g fd ps (FSpI PC A pre post Rx)) (hr : Room k X.A) (hm : X.mg n = some (.ref B)) (hb : Binds X.K fd ps [])
    (hs : σ[i]? = some (some (.ref q))) (hC : PC C) (ne : dx ≠ q) (nq : M q = none) (nd : M dx = none) (ha : EvA X es σ F (upd (upd M dx (.own q)) q (.ins C dx [])) fun F vs => A F vs x) (w : Own F (upd (upd M dx (.own q)) q (.ins C dx [])) H) (hp : pre x) (hx : ∀ F2 H2 c d, Same F F2 → Own F2 M H2 → Rx x F2 c d → W c d σ H2)
    (kk : ∀ F2 H2 fs, Same F F2 → Own F2 (upd (upd M dx (.own q)) q (.ins C dx fs)) H2 → post x F2 fs → WSs X rest D σ H2)
    (hN : X.N[i]? = some sn := by rfl) (hv : Vis X.env.scope sn := by first | exact Or.inl rfl | exact Or.inr (Or.inl rfl) | exact Or.inr (Or.inr rfl)) (hd : (sn == ("__debug__" : Str)) = false := by decide) (hcd : (sn == ("__classdict__" : Str)) = false := by decide)
    (hg : Gl X n := by rfl) (hdb : (n == ("__debug__" : Str)) = false := by decide) {pl : Sem Bool}
    (hc : eval (.Call (.Attribute (.Name n p1) "__init__" p2) (.Name sn ps1 :: es) [] p) X.env = (do
      let ov ← eval (.Name n p1) X.env
      standAt p2.atName
      let (f, first) ← holding [ov] (getMethod ov "__init__" pl)
      callWith p f first (backTo p (starEach (.Name sn ps1 :: es) X.env)) (backToKw p (keywordEach [] X.env))) := by rfl)
    (he : starEach (.Name sn ps1 :: es) X.env = (false, eval (.Name sn ps1) X.env) :: starEach es X.env := by rfl) (hpl : (backTo p (starEach es X.env)).any (·.1) = false := by rfl)
    (hsw : swapsWith (.Call (.Attribute (.Name n p1) "__init__" p2) (.Name sn ps1 :: es) [] p) none pos.line X.env = pure false := by rfl) :
    WSs X (.Expr (.Call (.Attribute (.Name n p1) "__init__" p2) (.Name sn ps1 :: es) [] p) pos :: rest) D σ H :=
  wss_cons (ws_of (ps_expr (pe_cmeth (pl := pl) T G hr hg hm hb (fun σ => passAt tk σ) (pa_cons (pe_var hN hv hd hcd) (pa_w es) he) hdb hc he hpl) hsw)
    ⟨_, hs, ha F H (Same.refl _) w _ fun F2 H2 vs s2 w2 hv => ⟨F2, M, C, q, dx, vs, x, rfl, hv, hp, hC, ne, nq, nd, w2, fun F3 H3 fs s3 w3 h => kk F3 H3 fs (s2.trans s3) w3 h, fun F3 H3 c d s3 w3 h => hx F3 H3 c d (s2.trans s3) w3 h⟩⟩)
/-- self.f = e -/
theorem ss_sfld {x : Addr} {C dx : Addr} {fs : List (Str × V)} {Φ : Hp → V → Prop} {sn : Str} {ps1 p3 : Pos} (i : Nat) (hs : σ[i]? = some (some (.ref x))) (hc : Cls X.K C) (hn : NoAttr X.K C f) (hM : M x = some (.ins C dx fs)) (he : Ev X e σ F M Φ) (w : Own F M H) (hl : fs.length < 1000)
    (kk : ∀ F2 M2 H2 v, Same F F2 → M2 = upd M x (.ins C dx (putF f v fs)) → Own F2 M2 H2 → Φ F2 v → WSs X rest D σ H2)
    (hN : X.N[i]? = some sn := by rfl) (hv : Vis X.env.scope sn := by first | exact Or.inl rfl | exact Or.inr (Or.inl rfl) | exact Or.inr (Or.inr rfl)) (hd : (sn == ("__debug__" : Str)) = false := by decide) (hcd : (sn == ("__classdict__" : Str)) = false := by decide)
    (hsw : swapsWith e (some (.Attribute (.Name sn ps1) f p3)) pos.line X.env = pure false := by rfl) :
    WSs X (.Assign [.Attribute (.Name sn ps1) f p3] e pos :: rest) D σ H :=
  wss_cons (ws_of (ps_fld (pe_var hN hv hd hcd) (pe_w e) hsw) (he F H (Same.refl _) w _ fun F2 H2 v s2 w2 hv => ⟨_, hs, x, C, dx, fs, rfl, w2.m _ _ hM, hc, hn, hl, kk F2 _ _ v s2 rfl (w2.put hM) hv⟩))
/-- self.f of what is one's own -/
theorem ev_sfld {x : Addr} {C dx : Addr} {fs : List (Str × V)} {v : V} {y : β} [m : Mono r] {sn : Str} {ps1 : Pos} (i : Nat) (hs : σ[i]? = some (some (.ref x))) (hc : Cls X.K C) (hn : NoAttr X.K C f) (hM : M x = some (.ins C dx fs)) (hl : fs.lookup f = some v) (hr : r F v y)
    (hN : X.N[i]? = some sn := by rfl) (hv : Vis X.env.scope sn := by first | exact Or.inl rfl | exact Or.inr (Or.inl rfl) | exact Or.inr (Or.inr rfl)) (hd : (sn == ("__debug__" : Str)) = false := by decide) (hcd : (sn == ("__classdict__" : Str)) = false := by decide)
    (hb : attributeBase (.Name sn ps1) f X.env (eval (.Name sn ps1) X.env) = eval (.Name sn ps1) X.env := by rfl) : EvF X (.Attribute (.Name sn ps1) f pos) σ F M r y :=
  fun F1 H1 s w Q q => we_of (pe_fld (pe_var hN hv hd hcd) hb) ⟨_, hs, x, C, dx, fs, v, rfl, w.m _ _ hM, hc, hn, hl, q F1 H1 v (Same.refl _) w (m.mono s hr)⟩
end
end Y

/-! ### exceptions that a suite holds; defs called there; a call as a statement -/
namespace Y
open PySem PySem.Spec PyProof.Rows L2
section
variable {X : Cx} {σ : L2.St} {F M H : Hp} {a b c e o : Expr} {es : List Expr} {pos p p1 p2 apos : Pos} {α β : Type} {r : Rep α} {n f : Str} {k : Nat} {rest : List Stmt} {D : Ends}
/-- e, a call, as a statement -/
theorem ss_expr {Φ : Hp → V → Prop} (he : Ev X e σ F M Φ) (w : Own F M H) (kk : ∀ F2 H2, Same F F2 → Own F2 M H2 → WSs X rest D σ H2) (hsw : swapsWith e none pos.line X.env = pure false := by rfl) : WSs X (.Expr e pos :: rest) D σ H :=
  wss_cons (ws_of (ps_expr (pe_w e) hsw) (he F H (Same.refl _) w _ fun F2 H2 v s2 w2 _ => kk F2 H2 s2 w2))
/-- .. of which something is known behind it -/
theorem ss_exprP {Φ : Hp → V → Prop} {P : Prop} (he : Ev X e σ F M Φ) (hP : ∀ F v, Φ F v → P) (w : Own F M H) (kk : ∀ F2 H2, Same F F2 → Own F2 M H2 → P → WSs X rest D σ H2) (hsw : swapsWith e none pos.line X.env = pure false := by rfl) : WSs X (.Expr e pos :: rest) D σ H :=
  wss_cons (ws_of (ps_expr (pe_w e) hsw) (he F H (Same.refl _) w _ fun F2 H2 v s2 w2 hv => kk F2 H2 s2 w2 (hP _ _ hv)))
/-- try: body except x as n: suite -/
theorem ss_tryA {x : Str} {cv : Value} {Wout : WX} {body suite : List Stmt} {b₀ : Stmt} {pos' np : Pos} (i : Nat) (hN : X.N.Nodup) (hs : X.stack = X.env :: X.outer) (hf : X.env.frame = some X.env.locals) (hc : Names X x cv) (tk : Takes X Wout)
    (hb : ∀ (W : WX) (pn : List (Addr × Obj)) (xe : Value → Shared → Prop), Takes (X.tr pn xe) W → PassesOwn (model X.prog X.w) X.A X.env xe →
      (∀ cls d σ' H', (∃ b, PySem.W.exmOne X.K cls cv = some b ∧ (b = true → ∀ a oe pn, H' a = none → Zc cls d oe → (∃ vs, oe.data = .fields vs) → WSs (X.suite a ((a, oe) :: pn)) (b₀ :: suite) { nx := fun σ2 H2 => (thn X rest D).nx (σ2.set i none) H2, rt := D.rt, bk := fun σ2 H2 => D.bk (σ2.set i none) H2, ct := fun σ2 H2 => D.ct (σ2.set i none) H2 } (σ'.set i (some (.ref a))) H') ∧ (b = false → Wout cls d σ' H')) → W cls d σ' H') →
      WSs (X.tr pn xe) body (thn X rest D) σ H)
    (hi : X.N[i]? = some n := by rfl) (hln : X.env.kindOf n = some .local := by rfl) :
    WSs X (.Try body [.ExceptHandler (some (.Name x np)) (some n) (b₀ :: suite) pos'] [] [] pos :: rest) D σ H :=
  wss_cons (ws_of (ps_try_as (tb := fun W D' σ' H' => ∀ pn xe, Takes (X.tr pn xe) W → PassesOwn (model X.prog X.w) X.A X.env xe → WSs (X.tr pn xe) body D' σ' H')
    (ts := fun a cls d D' σ' H' => ∀ oe pn, Zc cls d oe → (∃ vs, oe.data = .fields vs) → WSs (X.suite a ((a, oe) :: pn)) (b₀ :: suite) D' σ' H') hs hf hN hi hln hc tk
    (fun W pn xe t po => ⟨fun pins s σ' H' D' I h => h pn xe t po pins s I⟩) (fun a oe cls d pn hz hv => ⟨fun pins s σ' H' D' I h => h oe pn hz hv pins s I⟩))
    fun pn xe t po => hb _ pn xe t po fun cls d σ' H' ⟨b, h1, h2, h3⟩ => ⟨b, h1, fun q a n oe pn hz hv => h2 q a oe pn n hz hv, h3⟩)
/-! defs called while an exception is handled: p, the handled one's object, stands -/
structure FnHp (P : Program) (w : World) (K : PySem.W.Frag) (mg : Str → Option Value) (base : Heap) (k : Nat) (g : Addr) (fd : FuncData) (ps : List Str) (sp : Addr × Obj → Sp) : Prop where
  len : ∀ p vs H Q E, sp p vs H Q E → vs.length = ps.length
  run : ∀ (A : Around) (outer : List Env) (s : Shared) (H : Hp) (args : Args) (us : List Value) (vs : List V) (Q : VK) (E : XK) (p : Addr × Obj), L2H.RoomH k A → L2H.PinOk outer H s p → Env0 P w K mg base A outer s H → BindsTo s fd args (ps.zip us) → Vals vs us → sp p vs H Q E → codeAny (model P w) A (.call (.ref g) args) (CR CX0 outer P w H s Q E) s
theorem ok_hot {P : Program} {w : World} {K : PySem.W.Frag} {mg : Str → Option Value} {base : Heap} {x qual : Str} {st : Stmt} {g : Addr} {fd : FuncData} {N ps : List Str} {sp : Addr × Obj → Sp} (F0 : Fun K x qual st g fd) (S : FnScope N ps (defScope st)) (len : ∀ p vs H Q E, sp p vs H Q E → vs.length = ps.length)
    (hbody : ∀ (cdv : Value) (A : Around) (outer : List Env) (s : Shared) (H : Hp) (vs : List V) (Q : VK) (E : XK) (p : Addr × Obj), L2H.RoomH k (A.deeper (envOfC qual (defScope st) s.heap.objs.size g cdv)) → sp p vs H Q E → WSs (L2H.cxH CX0 P w K mg base N qual (defScope st) g cdv A outer s H E p) (defBody st) { nx := fun _ H' => Q .non H', rt := Q } (start N vs) H) : FnHp P w K mg base (k + 1) g fd ps sp := by
  obtain ⟨oc, od, kV, doc, pm, an, cdv, ct, osl, rfl, lk, hcd⟩ := F0.ex
  refine ⟨len, fun A outer s H args us vs Q E p room pin e0 bnd rv z => ?_⟩
  have inK : K.In s.heap := e0.mod.kin.keeps fun b o e => (e0.bs b o e).1
  have nol : s.heap.NoLimit := e0.mod.nolimit.keeps fun b o e => (e0.bs b o e).1
  have kinds : ∀ y ∈ ps.zip us, (defScope st).names.lookup y.1 = some .local ∨ ((defScope st).names.lookup y.1 = some .cell ∧ ((cellsFrom (s.heap.objs.size + 1) (defScope st).names []).lookup y.1).isSome = true) := fun y hy =>
    (S.par y.1 (List.of_mem_zip (show (y.1, y.2) ∈ _ from hy)).1).imp id fun q => ⟨q, PySem.W.cellsFrom_some _ _ _ (.inl q)⟩
  refine codeAny_call_function room.depth (inK _ _ lk) rfl S.co S.gen rfl (PySem.W.codeRec_of inK hcd) (bnd _ _ _ _ (wpAny_newFunctionEnv_cells S.kind kinds fun env he s1 made => ?_))
  subst he
  refine ⟨nol.keeps made.toInCall.keep, codeAny_func ?_⟩
  have I0 : Inv (L2H.cxH CX0 P w K mg base N qual (defScope st) g cdv A outer s H E p) [] (start N vs) H s1 := L2H.inv_startH S pin e0 (len _ _ _ _ _ z) rv made
  refine wpAny_mono (hbody cdv A outer s H vs Q E p (room.deeper _) z [] s1 I0) (fun fl s2 out => ?_) fun e s2 out => out
  cases fl with
  | ret u =>
    obtain ⟨v, σ2, H2, J, rj, q⟩ := out
    exact ⟨v, H2, J.os, J.bare, J.base, J.hok, rj, q⟩
  | next =>
    obtain ⟨σ2, H2, J, q⟩ := out
    exact ⟨V.non, H2, J.os, J.bare, J.base, J.hok, rfl, q⟩
  | brk => obtain ⟨_, _, _, q⟩ := out; exact q.elim
  | cont => obtain ⟨_, _, _, q⟩ := out; exact q.elim
theorem pe_hot {fd : FuncData} {ps : List Str} {g : Addr} {sp : Addr × Obj → Sp} {t : TA} {x : Addr × Obj} (G : FnHp X.prog X.w X.K X.mg X.base k g fd ps sp) (hr : L2H.RoomH k X.A) (hx : x ∈ X.pn) (hg : Gl X n) (hm : X.mg n = some (.ref g)) (hk : PySem.W.keepIn X.K (.ref g) = true) (hb : Binds X.K fd ps [])
    (ha : PA X (e :: es) t) (hdb : (n == ("__debug__" : Str)) = false := by decide) (he : starEach (e :: es) X.env = (false, eval e X.env) :: starEach es X.env := by rfl) (hpl : (backTo pos (starEach es X.env)).any (·.1) = false := by rfl) :
    PE X (.Call (.Name n p) (e :: es) [] pos) (fun σ H Q => t σ H fun vs H1 => sp x vs H1 Q fun _ _ _ => False) := by
  refine ⟨fun pins s σ H Q I h => wpAny_Call_Name_kw (ld_glob I hg hm ?_ hdb)⟩
  refine PySem.W.callWith_K (h₀ := X.base) I.ok.mod.kin hk (L2.thn (ha.run pos pins s σ H _ I h) fun us s1 ⟨vs, J, I1, rv, z⟩ => ⟨I1.kIn, ?_⟩) he hpl
  have hl : us.length = ps.length := (Vals.length rv).symm.trans (G.len _ _ _ _ _ z)
  have bnd := hb s1 us I1.kIn (by rw [List.append_nil]; exact hl)
  rw [List.append_nil] at bnd
  have hp := I1.pin x (List.mem_append_left _ hx)
  have pin : L2H.PinOk X.stack J s1 x := ⟨hp.1, hp.2.1, fun q => (List.mem_cons.mp (I1.stkSub x.1 q)).elim hp.2.2.1 hp.2.2.2.1, hp.2.2.2.2⟩
  refine wpAny_call (codeAny_mono (G.run X.A X.stack s1 J ⟨us, []⟩ us vs Q _ x hr pin I1.env0 bnd rv z) fun fin s2 out => ?_)
  cases fin with
  | error e2 => exact absurd out (by intro q; exact q)
  | ok fl =>
    cases fl with
    | ret u => exact I1.after out
    | next => exact out.elim
    | brk => exact out.elim
    | cont => exact out.elim
/-- f(n), n the name of the exception that the suite holds, f a def that tells a truth of it -/
theorem ev_hot {fd : FuncData} {ps : List Str} {g : Addr} {x : Addr × Obj} {Z : Addr × Obj → Prop} {y : Bool} {en : Str} {pe : Pos} (i : Nat) (G : FnHp X.prog X.w X.K X.mg X.base k g fd ps (fun x vs H Q _ => vs = [V.ref x.1] ∧ Z x ∧ ∃ F M, Own F M H ∧ ∀ F2 H2, Same F F2 → Own F2 M H2 → Q (.bl y) H2)) (hr : L2H.RoomH k X.A) (hx : x ∈ X.pn) (hm : X.mg n = some (.ref g)) (hk : PySem.W.keepIn X.K (.ref g) = true) (hb : Binds X.K fd ps [])
    (hZ : Z x) (hs : σ[i]? = some (some (.ref x.1))) (hg : Gl X n := by rfl) (hN : X.N[i]? = some en := by rfl) (hv : Vis X.env.scope en := by first | exact Or.inl rfl | exact Or.inr (Or.inl rfl) | exact Or.inr (Or.inr rfl)) (hd : (en == ("__debug__" : Str)) = false := by decide) (hcd : (en == ("__classdict__" : Str)) = false := by decide)
    (hdb : (n == ("__debug__" : Str)) = false := by decide) (he : starEach [.Name en pe] X.env = (false, eval (.Name en pe) X.env) :: starEach [] X.env := by rfl) (hpl : (backTo pos (starEach [] X.env)).any (·.1) = false := by rfl) : EvF X (.Call (.Name n p) [.Name en pe] [] pos) σ F M bR y :=
  fun F1 H1 s w Q q => we_of (pe_hot G hr hx hg hm hk hb (pa_cons (pe_var hN hv hd hcd) pa_nil he) hdb he hpl) ⟨_, hs, rfl, hZ, F1, M, w, fun F2 H2 s2 w2 => q F2 H2 _ s2 w2 rfl⟩
/-- isinstance(n, C), n the exception that is handled, of the class at B, without a dict -/
def rIsX (K : PySem.W.Frag) (B a : Addr) : List V → Hp → VK → Prop := fun xs H Q => ∃ (c : V) (cv : Value) (b : Bool), xs = [.ref a, c] ∧ (∀ u, RelV c u → u = cv) ∧ PySem.W.kitOne K (.ref B) cv = some b ∧ Q (.bl b) H
theorem call_isX {x : Addr × Obj} {B : Addr} (C : ExcC X.K B) (hx : x ∈ X.pn) (hz : Zc (.ref B) none x.2) (hf : ∃ vs, x.2.data = .fields vs) : CallR X (.builtin "isinstance") (rIsX X.K B x.1) := by
  intro pins s σ H xs us Q I rv h
  obtain ⟨c, cv, b, rfl, hcv, e, q⟩ := h
  obtain ⟨u1, u2, rfl, r1, r2⟩ := vals2 rv
  obtain rfl : u1 = Value.ref x.1 := r1
  obtain rfl := hcv _ r2
  have hp := (I.pin x (List.mem_append_left _ hx)).1
  obtain ⟨vs, hd⟩ := hf
  have J : PySem.W.InstAt s.heap x.1 x.2 B none := ⟨hp, hz.1, by unfold PySem.W.notCls; rw [hd] <;> rfl, by rw [hz.2]; trivial⟩
  exact PySem.W.kia_one (PySem.W.handS_kitx_exc C.hg C.hk C.hs C.hd C.ha C.hn C.ht C.hm) I.kIn J e (fun z => nomatch z) fun tk => ⟨.bl b, H, I.kept (t' := tk) fun _ _ z => z, rfl, q⟩
theorem bx_isXo {x : Addr × Obj} {B C0 : Addr} {y : Bool} {cn en : Str} {pe pc' : Pos} (i : Nat) (C : ExcC X.K B) (hx : x ∈ X.pn) (hz : Zc (.ref B) none x.2) (hf : ∃ vs, x.2.data = .fields vs) (hm : X.mg "isinstance" = none) (hs : σ[i]? = some (some (.ref x.1)))
    (hcm : X.mg cn = some (.ref C0)) (hk : PySem.W.kitOne X.K (.ref B) (.ref C0) = some y) (hcg : Gl X cn := by rfl) (hcd2 : (cn == ("__debug__" : Str)) = false := by decide) (hg : Gl X "isinstance" := by rfl) (hN : X.N[i]? = some en := by rfl) (hv : Vis X.env.scope en := by first | exact Or.inl rfl | exact Or.inr (Or.inl rfl) | exact Or.inr (Or.inr rfl)) (hd : (en == ("__debug__" : Str)) = false := by decide) (hcd : (en == ("__classdict__" : Str)) = false := by decide)
    (he : starEach [.Name en pe, .Name cn pc'] X.env = (false, eval (.Name en pe) X.env) :: starEach [.Name cn pc'] X.env := by rfl) (he2 : starEach [.Name cn pc'] X.env = (false, eval (.Name cn pc') X.env) :: starEach [] X.env := by rfl) (hpl : (backTo pos (starEach [.Name cn pc'] X.env)).any (·.1) = false := by rfl)
    (ht : ∀ whole, isTrue (.Call (.Name "isinstance" p) [.Name en pe, .Name cn pc'] [] pos) X.env whole = (do let v ← whole; standAt (Expr.Call (.Name "isinstance" p) [.Name en pe, .Name cn pc'] [] pos).pos; holding [v] (truthy v)) := by intro _; rfl) : Bx X (.Call (.Name "isinstance" p) [.Name en pe, .Name cn pc'] [] pos) σ F M y :=
  bx_val (fun F1 H1 s w Q q => we_of (pe_callB (call_isX C hx hz hf) hg hm (by decide +kernel) (pa_cons (pe_var hN hv hd hcd) (pa_cons (pe_glob (v := .ref C0) hcg hcm rfl hcd2) pa_nil he2) he) (he := he) (hpl := hpl)) ⟨_, hs, .ref C0, .ref C0, y, rfl, fun u z => z, hk, q F1 H1 _ (Same.refl _) w rfl⟩) ht
theorem bx_isXb {x : Addr × Obj} {B : Addr} {y : Bool} {S : String} {cn en : Str} {pe pc' : Pos} (i : Nat) (C : ExcC X.K B) (hx : x ∈ X.pn) (hz : Zc (.ref B) none x.2) (hf : ∃ vs, x.2.data = .fields vs) (hm : X.mg "isinstance" = none) (hs : σ[i]? = some (some (.ref x.1)))
    (hcm : X.mg cn = none) (hb : bootBuiltins cn = some (.type S)) (hk : PySem.W.kitOne X.K (.ref B) (.type S) = some y) (hcg : Gl X cn := by rfl) (hcd2 : (cn == ("__debug__" : Str)) = false := by decide) (hcn : cn ≠ "__name__" := by decide) (hg : Gl X "isinstance" := by rfl) (hN : X.N[i]? = some en := by rfl) (hv : Vis X.env.scope en := by first | exact Or.inl rfl | exact Or.inr (Or.inl rfl) | exact Or.inr (Or.inr rfl)) (hd : (en == ("__debug__" : Str)) = false := by decide) (hcd : (en == ("__classdict__" : Str)) = false := by decide)
    (he : starEach [.Name en pe, .Name cn pc'] X.env = (false, eval (.Name en pe) X.env) :: starEach [.Name cn pc'] X.env := by rfl) (he2 : starEach [.Name cn pc'] X.env = (false, eval (.Name cn pc') X.env) :: starEach [] X.env := by rfl) (hpl : (backTo pos (starEach [.Name cn pc'] X.env)).any (·.1) = false := by rfl)
    (ht : ∀ whole, isTrue (.Call (.Name "isinstance" p) [.Name en pe, .Name cn pc'] [] pos) X.env whole = (do let v ← whole; standAt (Expr.Call (.Name "isinstance" p) [.Name en pe, .Name cn pc'] [] pos).pos; holding [v] (truthy v)) := by intro _; rfl) : Bx X (.Call (.Name "isinstance" p) [.Name en pe, .Name cn pc'] [] pos) σ F M y :=
  bx_val (fun F1 H1 s w Q q => we_of (pe_callB (call_isX C hx hz hf) hg hm (by decide +kernel) (pa_cons (pe_var hN hv hd hcd) (pa_cons (pe_bltn (v := .ty S) hcg hcm hb rfl hcn hcd2) pa_nil he2) he) (he := he) (hpl := hpl)) ⟨_, hs, .ty S, .type S, y, rfl, fun u z => z, hk, q F1 H1 _ (Same.refl _) w rfl⟩) ht
end
/-! ### texts: str(n), x + y -/
theorem okS_iff {x : Str} : PyData.canLay0 (.str x) = true ↔ ∀ c ∈ TL.tl x, c < 0x110000 := by
  show PyData.strOk x = true ↔ _
  unfold PyData.strOk TL.tl
  rw [Array.all_eq_true_iff_forall_mem]
  simp only [Array.mem_toList_iff, decide_eq_true_eq]
theorem ok_app {x y : Str} (h1 : PyData.canLay0 (.str x) = true) (h2 : PyData.canLay0 (.str y) = true) : PyData.canLay0 (.str (x ++ y)) = true := by
  rw [okS_iff] at *
  intro c hc
  rw [TL.tl_append] at hc
  rcases List.mem_append.mp hc with hc | hc
  · exact h1 c hc
  · exact h2 c hc
/-- a number's text -/
def numT (i : Int) : Str := Str.ofString (toString i)
theorem ok_num (i : Int) : PyData.canLay0 (.str (numT i)) = true := by
  rw [okS_iff]
  intro c hc
  unfold numT at hc
  rw [TL.tl_ofString] at hc
  obtain ⟨ch, h1, rfl⟩ := List.mem_map.mp hc
  have := int_ascii i ch h1
  omega
section
variable {X : Cx} {σ : L2.St} {F M H : Hp} {a b c e o : Expr} {es : List Expr} {pos p p1 p2 apos : Pos} {α β : Type} {r : Rep α} {n f : Str} {k : Nat} {rest : List Stmt} {D : Ends}
theorem ev_strI {i : Int} (hm : X.mg "str" = none) (ha : EvF X a σ F M iR i) (hz : i.natAbs.log2 < 1920) (hg : Gl X "str" := by rfl) (he : starEach [a] X.env = (false, eval a X.env) :: starEach [] X.env := by rfl) (hpl : (backTo pos (starEach [] X.env)).any (·.1) = false := by rfl) :
    EvF X (.Call (.Name "str" p) [a] [] pos) σ F M sR (numT i) :=
  fun F1 H1 s w Q q => we_of (pe_callTy call_str_int hg hm (by decide +kernel) (pa_cons (pe_w a) pa_nil he) (he := he) (hpl := hpl)) (ha F1 H1 s w _ fun F2 H2 v s2 w2 hv => ⟨i, by rw [show v = V.int i from hv], hz, q F2 H2 _ s2 w2 ⟨rfl, ok_num i⟩⟩)
theorem ev_catS {x y : Str} (ha : EvF X a σ F M sR x) (hb : EvF X b σ F M sR y) (hz : x.length + y.length ≤ 1000000) : EvF X (.BinOp a .Add b pos) σ F M sR (x ++ y) :=
  fun F1 H1 s w Q q => we_of (pe_op op_add_str (pe_w a) (pe_w b)) (ha F1 H1 s w _ fun F2 H2 v s2 w2 hv => hb F2 H2 (s.trans s2) w2 _ fun F3 H3 u s3 w3 hu => ⟨x, y, hv.1, hu.1, Nat.le_trans hz (by decide), q F3 H3 _ (s2.trans s3) w3 ⟨rfl, ok_app hv.2 hu.2⟩⟩)
theorem flat_bls : ∀ xs : List Bool, (xs.map V.bl).all flatV = true
  | [] => rfl
  | _ :: t => flat_bls t
theorem inV_bls (i : Bool) : ∀ xs : List Bool, inV (.bl i) (xs.map V.bl) = decide (i ∈ xs)
  | [] => by simp [inV]
  | x :: t => by
    have ih := inV_bls i t
    unfold inV at *
    rw [List.map_cons, List.any_cons, ih]
    cases i <;> cases x <;> simp [eqV]
theorem bR_map {F : Hp} {vs : List V} {xs : List Bool} (h : A2 (bR F) vs xs) : vs = xs.map V.bl := A2.eq_map (f := V.bl) h
theorem bx_inB {i : Bool} {xs : List Bool} (ha : EvF X a σ F M bR i) (hb : EvF X b σ F M (rdR X.K M bR) xs) (hm : behindInMarks .In b = false := by rfl) : Bx X (.Compare a [.In] [b] pos) σ F M (decide (i ∈ xs)) :=
  bx_c (ec_R op_in_seq ha hb (fun _ _ _ _ h => h) fun F1 H1 v u s w hv ⟨l, vs, e, hl, h2⟩ Q q => by
    cases (show v = V.bl i from hv)
    rw [bR_map h2] at hl
    refine ⟨l, _, e, .inl (w.sq hl), rfl, flat_bls xs, ?_⟩
    rw [inV_bls]; exact q) hm
theorem bx_niB {i : Bool} {xs : List Bool} (ha : EvF X a σ F M bR i) (hb : EvF X b σ F M (rdR X.K M bR) xs) (hm : behindInMarks .NotIn b = false := by rfl) : Bx X (.Compare a [.NotIn] [b] pos) σ F M (!decide (i ∈ xs)) :=
  bx_c (ec_R op_notIn_seq ha hb (fun _ _ _ _ h => h) fun F1 H1 v u s w hv ⟨l, vs, e, hl, h2⟩ Q q => by
    cases (show v = V.bl i from hv)
    rw [bR_map h2] at hl
    refine ⟨l, _, e, .inl (w.sq hl), rfl, flat_bls xs, ?_⟩
    rw [inV_bls]; exact q) hm
end
end Y

/-! ### least and greatest with None as default; options; the measures told; parts' measures -/
namespace Y
open PySem PySem.Spec PyProof.Rows L2
def mnO : List Int → Option Int
  | [] => none
  | x :: t => some (t.foldl min x)
def mxO : List Int → Option Int
  | [] => none
  | x :: t => some (t.foldl max x)
instance : DEq (oR iR) where
  toD := fun x => match x with
    | none => .none
    | some i => .int i
  dep := 0
  dp := fun {K F v x} h => by
    cases x with
    | none => cases (show v = V.non from h); exact .non
    | some i => cases (show v = V.int i from h); exact .int _
  lay := fun {F v x} h => by cases x <;> rfl
  dpt := fun x => by cases x <;> exact Nat.le_refl _
  eqv := fun x y => by cases x <;> cases y <;> simp [PyData.eqv]
def rMaxN (K : PySem.W.Frag) : List V → List V → Hp → VK → Prop := fun vs zs H Q => ∃ (a : Addr) (ns : List Int), vs = [V.ref a] ∧ zs = [.non] ∧ SqL K H a (ns.map V.int) ∧ Q (oV (mxO ns)) H
def rMinN (K : PySem.W.Frag) : List V → List V → Hp → VK → Prop := fun vs zs H Q => ∃ (a : Addr) (ns : List Int), vs = [V.ref a] ∧ zs = [.non] ∧ SqL K H a (ns.map V.int) ∧ Q (oV (mnO ns)) H
section
variable {X : Cx}
theorem cr_maxN (hc : X.calm = true) (hu : X.A.units + 64 < cLine) : CallRK X (.builtin "max") [("default" : Str)] (rMaxN X.K) := by
  intro pins s σ H xs zs us ws Q I r rz h
  obtain ⟨a, ns, rfl, rfl, hs, q⟩ := h
  obtain ⟨its, rv, hl, _⟩ := I.list hs
  obtain ⟨u, rfl, t⟩ := vals1 rz
  cases t
  rw [Vals.ref1 r]
  refine PySem.W.max_list_datum_default (I.ok.hd hc) hl.isList (by simpa using holdAll_ints rv.ints) (by show X.A.units + 1 + 0 < _; omega) (fun e h' tk hk => ?_) fun y ys i v h' tk e hi hr hk => ?_
  · subst e
    exact ⟨.non, H, I.kept hk, rfl, q⟩
  · subst e
    obtain ⟨as, hr⟩ := hr
    rw [maxOf_int] at hr
    cases hr
    exact ⟨.int _, H, I.kept hk, ⟨_, rfl⟩, q⟩
theorem cr_minN (hc : X.calm = true) (hu : X.A.units + 64 < cLine) : CallRK X (.builtin "min") [("default" : Str)] (rMinN X.K) := by
  intro pins s σ H xs zs us ws Q I r rz h
  obtain ⟨a, ns, rfl, rfl, hs, q⟩ := h
  obtain ⟨its, rv, hl, _⟩ := I.list hs
  obtain ⟨u, rfl, t⟩ := vals1 rz
  cases t
  rw [Vals.ref1 r]
  refine PySem.W.min_list_datum_default (I.ok.hd hc) hl.isList (by simpa using holdAll_ints rv.ints) (by show X.A.units + 1 + 0 < _; omega) (fun e h' tk hk => ?_) fun y ys i v h' tk e hi hr hk => ?_
  · subst e
    exact ⟨.non, H, I.kept hk, rfl, q⟩
  · subst e
    obtain ⟨as, hr⟩ := hr
    rw [minOf_int] at hr
    cases hr
    exact ⟨.int _, H, I.kept hk, ⟨_, rfl⟩, q⟩
variable {σ : L2.St} {F M H : Hp} {a b c e : Expr} {es : List Expr} {pos p p2 kpos : Pos} {α β γ : Type} {r : Rep α} {s : Rep β} {rest : List Stmt} {D : Ends}
theorem ev_maxN {xs : List Int} (hc : X.calm = true) (hu : X.A.units + 64 < cLine) (hm : X.mg "max" = none) (ha : EvF X a σ F M (rdR X.K M iR) xs) (hb : EvF X b σ F M nR ()) (hg : Gl X "max" := by rfl)
    (he0 : starEach [a] X.env = (false, eval a X.env) :: starEach [] X.env := by rfl)
    (he : backTo pos (starEach [a] X.env) = (false, eval a X.env) :: backTo pos (starEach [] X.env) := by rfl) (hpl : (backTo pos (starEach [a] X.env)).any (·.1) = false := by rfl)
    (hall : (backToKw pos (keywordEach [⟨some "default", b, kpos⟩] X.env)).all (·.1.isSome) = true := by rfl) (hnone : (backToKw pos (keywordEach [⟨some "default", b, kpos⟩] X.env)).any (·.1.isNone) = false := by rfl) (hks : (backToKw pos (keywordEach [⟨some "default", b, kpos⟩] X.env)).filterMap (·.1) = [("default" : Str)] := by rfl) :
    EvF X (.Call (.Name "max" p) [a] [⟨some "default", b, kpos⟩] pos) σ F M (oR iR) (mxO xs) :=
  fun F1 H1 s w Q q => we_of (pe_callBK (cr_maxN hc hu) hg hm (by decide +kernel) (pa_cons (pe_w a) pa_nil he0) (pk_cons (pe_w b) pk_nil) (by decide) (by decide) he hpl hall hnone hks) (ha F1 H1 s w _ fun F2 H2 v s2 w2 ⟨l, vs, e, hl, h2⟩ => hb F2 H2 (s.trans s2) w2 _ fun F3 H3 u s3 w3 hu' =>
    ⟨l, xs, by rw [e], by rw [show u = V.non from hu'], by rw [← iR_map h2]; exact w3.sq (hl.imp (fun y => Same.sql s3 y) id), q F3 H3 _ (s2.trans s3) w3 oV_rep⟩)
theorem ev_minN {xs : List Int} (hc : X.calm = true) (hu : X.A.units + 64 < cLine) (hm : X.mg "min" = none) (ha : EvF X a σ F M (rdR X.K M iR) xs) (hb : EvF X b σ F M nR ()) (hg : Gl X "min" := by rfl)
    (he0 : starEach [a] X.env = (false, eval a X.env) :: starEach [] X.env := by rfl)
    (he : backTo pos (starEach [a] X.env) = (false, eval a X.env) :: backTo pos (starEach [] X.env) := by rfl) (hpl : (backTo pos (starEach [a] X.env)).any (·.1) = false := by rfl)
    (hall : (backToKw pos (keywordEach [⟨some "default", b, kpos⟩] X.env)).all (·.1.isSome) = true := by rfl) (hnone : (backToKw pos (keywordEach [⟨some "default", b, kpos⟩] X.env)).any (·.1.isNone) = false := by rfl) (hks : (backToKw pos (keywordEach [⟨some "default", b, kpos⟩] X.env)).filterMap (·.1) = [("default" : Str)] := by rfl) :
    EvF X (.Call (.Name "min" p) [a] [⟨some "default", b, kpos⟩] pos) σ F M (oR iR) (mnO xs) :=
  fun F1 H1 s w Q q => we_of (pe_callBK (cr_minN hc hu) hg hm (by decide +kernel) (pa_cons (pe_w a) pa_nil he0) (pk_cons (pe_w b) pk_nil) (by decide) (by decide) he hpl hall hnone hks) (ha F1 H1 s w _ fun F2 H2 v s2 w2 ⟨l, vs, e, hl, h2⟩ => hb F2 H2 (s.trans s2) w2 _ fun F3 H3 u s3 w3 hu' =>
    ⟨l, xs, by rw [e], by rw [show u = V.non from hu'], by rw [← iR_map h2]; exact w3.sq (hl.imp (fun y => Same.sql s3 y) id), q F3 H3 _ (s2.trans s3) w3 oV_rep⟩)
/-- what an option that is some holds -/
theorem Ev.oget {x : Option α} {y : α} (h : EvF X e σ F M (oR r) x) (hx : x = some y) : EvF X e σ F M r y := h.imp fun F v q => oR.get q hx
theorem A2.somes {F : Hp} : ∀ {vs : List V} {xs : List α}, A2 (r F) vs xs → A2 (oR r F) vs (xs.map some)
  | _, _, .nil => .nil
  | _, _, .cons h t => .cons h t.somes
/-- a list of things as a list of options -/
theorem Ev.lsome {xs : List α} (h : EvF X e σ F M (lR r) xs) : EvF X e σ F M (lR (oR r)) (xs.map some) := h.imp fun F v ⟨l, vs, e, hl, h2⟩ => ⟨l, vs, e, hl, h2.somes⟩
/-- x(..).append(e): a new list, which nobody holds -/
theorem ss_appN {xs : List α} {x : β} {cpos apos : Pos} {o : Expr} (ho : EvN X o σ F M r xs) (hz : xs.length < 1000000) (he : ∀ M, EvF X e σ F M s x) (w : Own F M H)
    (k : ∀ F2 H2, Same F F2 → Own F2 M H2 → WSs X rest D σ H2)
    (hbase : attributeBase o "append" X.env (eval o X.env) = eval o X.env := by rfl)
    (hfew : ((backTo cpos (starEach [e] X.env)).all (fun x => !x.1) && (backToKw cpos (keywordEach [] X.env)).all (fun x => x.1.isSome)
      && decide ([e].length + ([] : List Keyword).length + (if ([] : List Keyword).isEmpty then 0 else 1) < 30)) = true := by rfl)
    (hline : (apos.endLine == cpos.line) = true := by rfl) (hst : starEach [e] X.env = (false, eval e X.env) :: starEach [] X.env := by rfl) (hplain : (backTo cpos (starEach [] X.env)).any (·.1) = false := by rfl)
    (hsw : swapsWith (.Call (.Attribute o "append" apos) [e] [] cpos) none pos.line X.env = pure false := by rfl) :
    WSs X (.Expr (.Call (.Attribute o "append" apos) [e] [] cpos) pos :: rest) D σ H :=
  wss_cons (ws_of (ps_expr (pe_bm PySem.F.plainAttrs_list PySem.F.slot_list_append PySem.F.type_list_append mt_append (pe_w o) (pa_cons (pe_w e) pa_nil hst) hbase hfew hline hst hplain) hsw)
    (ho F H (Same.refl _) w _ fun F2 H2 l vs s2 w2 n1 n2 hh h2 => ⟨.inl ⟨rfl, _, SqL.of hh⟩, he _ F2 H2 s2 (w2.keepM n1 n2 hh) _ fun F3 H3 v s3 w3 hv =>
      ⟨l, vs, v, rfl, rfl, w3.m _ _ upd_same, Nat.lt_of_lt_of_le (by rw [h2.len]; exact hz) (by decide), k F3 _ (s2.trans s3) ((w3.put upd_same).lessM ((same_new n2).trans (by rw [upd_upd]; exact Same.refl _)))⟩⟩))
/-! what is told of measures: a list of numbers or None, and of a list of texts at its end -/
def dueR : Rep (List (Option Int) × List Str) := fun F v x => ∃ l vs w, v = .ref l ∧ F l = some (.lst (vs ++ [w])) ∧ A2 (oR iR F) vs x.1 ∧ lR sR F w x.2
instance : Mono dueR := ⟨fun e ⟨l, vs, w, e1, h1, h2, h3⟩ => ⟨l, vs, w, e1, e.lst h1, h2.sub e, Mono.sub e h3⟩⟩
instance : NotN dueR := ⟨fun ⟨l, vs, w, e1, _⟩ => by subst e1; intro z; cases z⟩
theorem ea_due1 {xs : List Str} (he : EvF X e σ F M (lR sR) xs) (hs : starEach [e] X.env = (false, eval e X.env) :: starEach [] X.env := by rfl) : EvA X [e] σ F M fun F us => ∃ vs w, us = vs ++ [w] ∧ A2 (oR iR F) vs [] ∧ lR sR F w xs :=
  fun F1 H1 s w Q q => wa_of (pa_cons (pe_w e) pa_nil hs) (he F1 H1 s w _ fun F2 H2 v s2 w2 hv => q F2 H2 _ s2 w2 ⟨[], v, rfl, .nil, hv⟩)
theorem ea_dueC {x : Option Int} {xs : List (Option Int)} {ws : List Str} (he : EvF X e σ F M (oR iR) x) (h : EvA X es σ F M fun F us => ∃ vs w, us = vs ++ [w] ∧ A2 (oR iR F) vs xs ∧ lR sR F w ws) (hs : starEach (e :: es) X.env = (false, eval e X.env) :: starEach es X.env := by rfl) :
    EvA X (e :: es) σ F M fun F us => ∃ vs w, us = vs ++ [w] ∧ A2 (oR iR F) vs (x :: xs) ∧ lR sR F w ws :=
  fun F1 H1 s w Q q => wa_of (pa_cons (pe_w e) (pa_w es) hs) (he F1 H1 s w _ fun F2 H2 v s2 w2 hv => h F2 H2 (s.trans s2) w2 _ fun F3 H3 us s3 w3 ⟨vs, u, e1, h1, h2⟩ => q F3 H3 _ (s2.trans s3) w3 ⟨v :: vs, u, by rw [e1]; rfl, .cons (Mono.mono s3 hv) h1, h2⟩)
theorem ev_due {xs : List (Option Int)} {ws : List Str} (h : EvA X es σ F M fun F us => ∃ vs w, us = vs ++ [w] ∧ A2 (oR iR F) vs xs ∧ lR sR F w ws) (hl : xs.length ≤ 1000 := by simp) : EvF X (.List es pos) σ F M dueR (xs, ws) :=
  fun F1 H1 s w Q q => we_of (pe_lst (pa_w es)) (h F1 H1 s w _ fun F2 H2 us s2 w2 ⟨vs, u, e1, h1, h2⟩ => by
    subst e1
    refine ⟨by rw [List.length_append, h1.len]; exact Nat.le_trans (Nat.add_le_add_right hl 1) (by decide), fun l hl2 => ?_⟩
    have hf : F2 l = none := w2.noF hl2
    exact q (upd F2 l (.lst (vs ++ [u]))) _ _ (s2.trans (same_new hf)) (w2.newF hl2) ⟨l, vs, u, rfl, upd_same, h1.up (same_new hf), Mono.mono (same_new hf) h2⟩)
/-- due[:6], due[6] -/
theorem en_due6 {x : List (Option Int) × List Str} {p4 : Pos} {j} (ha : EvF X a σ F M dueR x) (h6 : x.1.length = 6) : EvN X (.Subscript a (.Slice none (some (.Constant (.int 6) j p4)) none p2) pos) σ F M (oR iR) x.1 :=
  fun F1 H1 s w Q q => we_of (pe_slice sl_list (pe_w a) (po_w none) (po_w (some (.Constant (.int 6) j p4)))) (ha F1 H1 s w _ fun F2 H2 v s2 w2 ⟨l, vs, u, e, hl, h2, h3⟩ => EvO.run (X := X) (e := none) (o := none) trivial (s.trans s2) w2 _ fun F3 H3 s3 w3 => EvO.run (X := X) (e := some (.Constant (.int 6) j p4)) (o := some 6) (show EvF X (.Constant (.int 6) j p4) σ F M iR 6 from ev_int) ((s.trans s2).trans s3) w3 _ fun F4 H4 s4 w4 =>
    ⟨l, _, e, SqL.of (w4.f _ _ (s4 _ _ (s3 _ _ hl))), fun p hp => by
      refine q F4 _ p _ ((s2.trans s3).trans s4) ⟨same_in w4.f (w4.noF hp), same_in w4.m (w4.noM hp), w4.d, w4.t⟩ (w4.noF hp) (w4.noM hp) upd_same ?_
      have e6 : cutV (vs ++ [u]) none (some 6) = vs := by
        have hl6 : vs.length = 6 := h2.len.trans h6
        match vs, hl6 with
        | [a, b, c, d, e, f], _ => rfl
      rw [e6]
      exact h2.up (s3.trans s4)⟩)
theorem ev_dueW {x : List (Option Int) × List Str} {j} {q1} (ha : EvF X a σ F M dueR x) (h6 : x.1.length = 6) (hs : PlainIx (.Constant (.int 6) j q1) := by exact fun _ _ => rfl) : EvF X (.Subscript a (.Constant (.int 6) j q1) pos) σ F M (lR sR) x.2 :=
  fun F1 H1 s w Q q => we_of (pe_ix ix_list (pe_w a) pe_int hs) (ha F1 H1 s w _ fun F2 H2 v s2 w2 ⟨l, vs, u, e, hl, h2, h3⟩ => ⟨l, _, 6, u, e, rfl, SqL.of (w2.f _ _ hl), by
    have hl6 : vs.length = 6 := h2.len.trans h6
    match vs, hl6 with
    | [a, b, c, d, e, f], _ => rfl, q F2 H2 _ s2 w2 h3⟩)
end
end Y

/-! ### the parts: their measures, their words; an __init__'s self -/
namespace Y
open PySem PySem.Spec PyProof.Rows L2
theorem same_self {M : Hp} {x dx : Addr} {a b : HO} (hx : M x = none) (hd : M dx = none) (ne : dx ≠ x) : Same M (upd (upd M dx a) x b) :=
  (same_new hd).trans (same_new (by rw [upd_ne ne.symm]; exact hx))
theorem oV_of {F : Hp} {v : V} {x : Option Int} (h : oR iR F v x) : v = oV x := by cases x <;> exact h
theorem roomH_mark {j k : Nat} {A : Around} {o : Option Value} (hr : Room j A) (h : k ≤ j) : L2H.RoomH k (A.mark o) := ⟨(hr.mono h).dp, (hr.mono h).un⟩
theorem strLen_ofString (s : String) : (Str.ofString s).length = s.length := by
  have h : (TL.tl (Str.ofString s)).length = s.length := by rw [TL.tl_ofString, List.length_map]; exact String.length_toList
  unfold TL.tl at h
  rw [Array.length_toList] at h
  exact h
theorem numT_len {i : Int} {k : Nat} (h : i.natAbs < 10 ^ k) (hk : 0 < k) : (numT i).length ≤ k + 1 := by
  unfold numT
  rw [strLen_ofString]
  cases i with
  | ofNat m =>
    have : (toString (Int.ofNat m)) = m.repr := rfl
    rw [this]
    have := (Nat.length_repr_le_iff (n := m) hk).mpr h
    omega
  | negSucc m =>
    have : (toString (Int.negSucc m)) = "-" ++ (m + 1).repr := rfl
    rw [this, String.length_append]
    have := (Nat.length_repr_le_iff (n := m + 1) hk).mpr h
    have : "-".length = 1 := rfl
    omega
theorem str_len_app (x y : Str) : (x ++ y).length = x.length + y.length := by
  have h : (TL.tl (x ++ y)).length = (TL.tl x).length + (TL.tl y).length := by rw [TL.tl_append, List.length_append]
  unfold TL.tl at h
  simp only [Array.length_toList] at h
  exact h
theorem numT_small {i : Int} (h : i.natAbs < 10 ^ 1000) : (numT i).length ≤ 1001 := numT_len h (by decide)
theorem log_small {i : Int} (h : i.natAbs < 10 ^ 9) : i.natAbs.log2 < 1920 := by
  by_cases q : i.natAbs = 0
  · rw [q]; decide
  · exact Nat.lt_of_lt_of_le ((Nat.log2_lt q).mpr (Nat.lt_of_lt_of_le h (by decide : 10 ^ 9 ≤ 2 ^ 30))) (by decide)
/-! what a part is made of -/
def sumF (f : PT → Int) (ts : List PT) : Int := (ts.map f).sum
def lowsP (ts : List PT) : List Int := (ts.filter fun t => !t.m.low.isNone).map fun t => oG t.m.low
def highsP (ts : List PT) : List Int := (ts.filter fun t => !t.m.low.isNone).map fun t => oG t.m.high
def measB (ts : List PT) (long written : Int) : Meas := ⟨long, written, 1 + (ts.map fun t => t.m.size).sum, 1 + mxD 0 (ts.map fun t => t.m.depth), mnO (lowsP ts), mxO (highsP ts)⟩
def mkB (k : PKind) (n : Int) (ts : List PT) (long written : Int) : PT := .mk k n ts (measB ts long written)
def okM (m : Meas) : Prop := (1 ≤ m.cells ∧ m.cells ≤ 2000) ∧ (1 ≤ m.leaves ∧ m.leaves ≤ 900) ∧ (1 ≤ m.size ∧ m.size ≤ 1500) ∧ (1 ≤ m.depth ∧ m.depth ≤ 12)
def toneP (p c : Int) : PT := .mk .tone p [] ⟨c, 1, 1, 1, some p, some p⟩
def restP (c : Int) : PT := .mk .rest 0 [] ⟨c, 1, 1, 1, none, none⟩
def rowP (ts : List PT) : PT := mkB .row 0 ts (ts.map fun t => t.m.cells).sum (ts.map fun t => t.m.leaves).sum
def repP (n : Int) (t : PT) : PT := mkB .rep n [t] (n * t.m.cells) (n * t.m.leaves)
def movO (n : Int) : Option Int → Option Int
  | none => none
  | some i => some (i + n)
def shiftP (n : Int) (t : PT) : PT := .mk .shift n [t] { measB [t] t.m.cells t.m.leaves with low := movO n t.m.low, high := movO n t.m.high }
def stretchP (n : Int) (t : PT) : PT := mkB .stretch n [t] (n * t.m.cells) t.m.leaves
def besideP (ts : List PT) : PT := mkB .beside 0 ts (mxD 0 (ts.map fun t => t.m.cells)) (ts.map fun t => t.m.leaves).sum
mutual
def wordsP : PT → List Str
  | .mk .tone n _ m => [numT n ++ "." ++ numT m.cells]
  | .mk .rest _ _ m => [("r." : Str) ++ numT m.cells]
  | .mk .row _ ts _ => (["("] : List Str) ++ wordsL ts ++ ([")"] : List Str)
  | .mk .rep n ts _ => [("x" : Str) ++ numT n] ++ wordsL ts
  | .mk .shift n ts _ => (if n < 0 then [numT n] else [("+" : Str) ++ numT n]) ++ wordsL ts
  | .mk .stretch n ts _ => [("*" : Str) ++ numT n] ++ wordsL ts
  | .mk .beside _ ts _ => (["["] : List Str) ++ (wordsB ts).drop 1 ++ (["]"] : List Str)
def wordsL : List PT → List Str
  | [] => []
  | t :: ts => wordsP t ++ wordsL ts
def wordsB : List PT → List Str
  | [] => []
  | t :: ts => "|" :: (wordsP t ++ wordsB ts)
end
theorem wordsP_tone {t : PT} (h : t.k = .tone) : wordsP t = [numT t.n ++ "." ++ numT t.m.cells] := by
  cases t with | mk k n ts m => cases (show k = _ from h); simp only [wordsP]; rfl
theorem wordsP_rest {t : PT} (h : t.k = .rest) : wordsP t = [("r." : Str) ++ numT t.m.cells] := by
  cases t with | mk k n ts m => cases (show k = _ from h); simp only [wordsP]; rfl
theorem wordsP_row {t : PT} (h : t.k = .row) : wordsP t = (["("] : List Str) ++ wordsL t.inner ++ ([")"] : List Str) := by
  cases t with | mk k n ts m => cases (show k = _ from h); simp only [wordsP]; rfl
theorem wordsP_rep {t : PT} (h : t.k = .rep) : wordsP t = [("x" : Str) ++ numT t.n] ++ wordsL t.inner := by
  cases t with | mk k n ts m => cases (show k = _ from h); simp only [wordsP]; rfl
theorem wordsP_shift {t : PT} (h : t.k = .shift) : wordsP t = (if t.n < 0 then [numT t.n] else [("+" : Str) ++ numT t.n]) ++ wordsL t.inner := by
  cases t with | mk k n ts m => cases (show k = _ from h); simp only [wordsP]; rfl
theorem wordsP_stretch {t : PT} (h : t.k = .stretch) : wordsP t = [("*" : Str) ++ numT t.n] ++ wordsL t.inner := by
  cases t with | mk k n ts m => cases (show k = _ from h); simp only [wordsP]; rfl
theorem wordsP_beside {t : PT} (h : t.k = .beside) : wordsP t = (["["] : List Str) ++ (wordsB t.inner).drop 1 ++ (["]"] : List Str) := by
  cases t with | mk k n ts m => cases (show k = _ from h); simp only [wordsP]; rfl
/-- what was made within the bounds -/
inductive Sound : PT → Prop
  | tone {p c : Int} : 0 ≤ p → p ≤ 127 → 1 ≤ c → c ≤ 2000 → Sound (toneP p c)
  | rest {c : Int} : 1 ≤ c → c ≤ 2000 → Sound (restP c)
  | row {ts : List PT} : (∀ t ∈ ts, Sound t) → okM (rowP ts).m → Sound (rowP ts)
  | rep {n : Int} {t : PT} : 1 ≤ n → n ≤ 99 → Sound t → okM (repP n t).m → Sound (repP n t)
  | shift {n : Int} {t : PT} : -60 ≤ n → n ≤ 60 → Sound t → okM (shiftP n t).m → (∀ i, t.m.low = some i → 0 ≤ i + n ∧ i + n ≤ 127) → (∀ i, t.m.high = some i → 0 ≤ i + n ∧ i + n ≤ 127) → Sound (shiftP n t)
  | stretch {n : Int} {t : PT} : 1 ≤ n → n ≤ 12 → Sound t → okM (stretchP n t).m → Sound (stretchP n t)
  | beside {ts : List PT} : (∀ t ∈ ts, Sound t) → 2 ≤ ts.length → okM (besideP ts).m → Sound (besideP ts)
theorem Sound.ok {t : PT} (h : Sound t) : okM t.m := by
  cases h with
  | tone a b c d => exact ⟨⟨c, d⟩, ⟨by show (1 : Int) ≤ 1; omega, by show (1 : Int) ≤ 900; omega⟩, ⟨by show (1 : Int) ≤ 1; omega, by show (1 : Int) ≤ 1500; omega⟩, ⟨by show (1 : Int) ≤ 1; omega, by show (1 : Int) ≤ 12; omega⟩⟩
  | rest c d => exact ⟨⟨c, d⟩, ⟨by show (1 : Int) ≤ 1; omega, by show (1 : Int) ≤ 900; omega⟩, ⟨by show (1 : Int) ≤ 1; omega, by show (1 : Int) ≤ 1500; omega⟩, ⟨by show (1 : Int) ≤ 1; omega, by show (1 : Int) ≤ 12; omega⟩⟩
  | row _ h => exact h
  | rep _ _ _ h => exact h
  | shift _ _ _ h => exact h
  | stretch _ _ _ h => exact h
  | beside _ _ h => exact h
theorem Sound.cells {t : PT} (h : Sound t) : 1 ≤ t.m.cells ∧ t.m.cells ≤ 2000 := h.ok.1
theorem mnO_none {xs : List Int} : (mnO xs).isNone = decide (xs = []) := by cases xs <;> rfl
theorem mxO_none {xs : List Int} : (mxO xs).isNone = decide (xs = []) := by cases xs <;> rfl
theorem measB_both {ts : List PT} {a b : Int} : (measB ts a b).high.isNone = (measB ts a b).low.isNone := by
  show (mxO (highsP ts)).isNone = (mnO (lowsP ts)).isNone
  rw [mnO_none, mxO_none]
  unfold highsP lowsP
  simp only [List.map_eq_nil_iff]
/-- its lowest is None just where its highest is -/
theorem Sound.both {t : PT} (h : Sound t) : t.m.high.isNone = t.m.low.isNone := by
  induction h with
  | tone => rfl
  | rest => rfl
  | row => exact measB_both
  | rep => exact measB_both
  | @shift n t _ _ _ _ _ _ ih =>
    show (movO n t.m.high).isNone = (movO n t.m.low).isNone
    cases h1 : t.m.high <;> cases h2 : t.m.low <;> rw [h1, h2] at ih <;> first | rfl | cases ih
  | stretch => exact measB_both
  | beside => exact measB_both
/-- the number of a sound part is small -/
theorem Sound.num {t : PT} (h : Sound t) : -60 ≤ t.n ∧ t.n ≤ 127 := by
  cases h with
  | @tone p c a b _ d => exact ⟨by show (-60 : Int) ≤ p; omega, b⟩
  | rest c d => exact ⟨by show (-60 : Int) ≤ 0; omega, by show (0 : Int) ≤ 127; omega⟩
  | row _ h => exact ⟨by show (-60 : Int) ≤ 0; omega, by show (0 : Int) ≤ 127; omega⟩
  | @rep n t a b _ h => exact ⟨by show (-60 : Int) ≤ n; omega, by show n ≤ (127 : Int); omega⟩
  | @shift n t a b _ h => exact ⟨a, by show n ≤ (127 : Int); omega⟩
  | @stretch n t a b _ h => exact ⟨by show (-60 : Int) ≤ n; omega, by show n ≤ (127 : Int); omega⟩
  | beside _ _ h => exact ⟨by show (-60 : Int) ≤ 0; omega, by show (0 : Int) ≤ 127; omega⟩
/-- an instance's attributes are those of the part t -/
def PMade (pc : PKind → Addr) (F : Hp) (fs : List (Str × V)) (t : PT) : Prop := ∃ l vs, F l = some (.lst vs) ∧ A2 (pR pc F) vs t.inner ∧ fs = pflds t.k t.n l t.m
theorem made_pR {pc : PKind → Addr} {F0 F : Hp} {q dx : Addr} {fs : List (Str × V)} {t : PT} (h : F q = some (.ins (pc t.k) dx fs)) (s : Same F0 F) (hm : PMade pc F0 fs t) : pR pc F (.ref q) t := by
  obtain ⟨l, vs, hl, hA, rfl⟩ := hm
  cases t with
  | mk k n ts m => exact PR.of h (s _ _ hl) (hA.up s)
theorem kit_own {K : PySem.W.Frag} {R S : Addr} {b : Bool} (h2 : PySem.W.isClsIn K S = true) (h3 : PySem.W.typeIn K (.ref S) = some (.type "type")) (h4 : PySem.W.subIn K (.ref R) (.ref S) = some b) (hn : b = false → R ≠ S) : PySem.W.kitOne K (.ref R) (.ref S) = some b := by
  unfold PySem.W.kitOne
  by_cases q : R = S
  · subst q
    cases b with
    | true => rw [if_pos (by simp)]
    | false => exact absurd rfl (hn rfl)
  · rw [if_neg (by simpa using q)]
    have h2' : (PySem.W.clsIn K S).isSome = true := h2
    show (if ((PySem.W.clsIn K S).isSome && PySem.W.typeIn K (.ref S) == some (.type "type")) = true then PySem.W.subIn K (.ref R) (.ref S) else none) = some b
    rw [h2', h3, if_pos (by rfl)]
    exact h4
theorem kit_typ {K : PySem.W.Frag} {R : Addr} {T : String} {b : Bool} (h2 : PySem.W.kitMeta T = true) (h4 : PySem.W.subIn K (.ref R) (.type T) = some b) : PySem.W.kitOne K (.ref R) (.type T) = some b := by
  unfold PySem.W.kitOne
  rw [if_neg (by rintro h; exact absurd (eq_of_beq h) (by intro z; cases z))]
  show (if PySem.W.kitMeta T = true then PySem.W.subIn K (.ref R) (.type T) else none) = some b
  rw [if_pos h2]
  exact h4
end Y

namespace Q
open PySem PySem.Spec PyProof.Rows L2 Y

theorem filter_true {α : Type} (xs : List α) : xs.filter (fun _ => true) = xs := by simp
theorem pw_rng {lo : Int} {n : Nat} : (rng lo n).Pairwise (· < ·) := by
  unfold rng
  rw [List.pairwise_map]
  exact List.pairwise_lt_range.imp fun h => by omega
theorem mem_rng {lo : Int} {n : Nat} {k : Int} : k ∈ rng lo n ↔ lo ≤ k ∧ k < lo + n := by
  refine ⟨rng_mem, fun h => ?_⟩
  unfold rng
  exact List.mem_map.mpr ⟨(k - lo).toNat, by simp; omega, by omega⟩

theorem okM_nil {c : Int} : okM (measB [] c 1) ↔ (1 ≤ c ∧ c ≤ 2000) := by
  have e : measB [] c 1 = ⟨c, 1, 1, 1, none, none⟩ := rfl
  rw [e]; unfold okM; simp
theorem tone_sound {t : Y.PT} {p c : Int} (h : t = toneP p c ∧ ((0 ≤ p ∧ p ≤ 127) ∧ (1 ≤ c ∧ c ≤ 2000))) : t.k = .tone ∧ Sound t := by
  obtain ⟨rfl, ⟨a, b⟩, d, e⟩ := h; exact ⟨rfl, .tone a b d e⟩
theorem rest_sound {t : Y.PT} {c : Int} (h : t = restP c ∧ (1 ≤ c ∧ c ≤ 2000)) : t.k = .rest ∧ Sound t := by
  obtain ⟨rfl, d, e⟩ := h; exact ⟨rfl, .rest d e⟩

def beyondF (c lo hi : Int) : Int := gI [lo - 1, hi + 1, lo - 1 - c / 4 % 10 ^ 18, hi + 1 + c / 4 % 10 ^ 18] (c % 4)
theorem gI4 {a b c d : Int} : gI [a, b, c, d] 0 = a ∧ gI [a, b, c, d] 1 = b ∧ gI [a, b, c, d] 2 = c ∧ gI [a, b, c, d] 3 = d := ⟨rfl, rfl, rfl, rfl⟩
theorem beyond_out {c lo hi : Int} (h : lo ≤ hi) : beyondF c lo hi < lo ∨ hi < beyondF c lo hi := by
  unfold beyondF
  have h1 := Int.emod_nonneg (c / 4) (show (10 : Int) ^ 18 ≠ 0 by decide)
  have h2 := Int.emod_nonneg c (show (4 : Int) ≠ 0 by decide)
  have h3 := Int.emod_lt_of_pos c (show (0 : Int) < 4 by decide)
  generalize c / 4 % 10 ^ 18 = d at *
  have : c % 4 = 0 ∨ c % 4 = 1 ∨ c % 4 = 2 ∨ c % 4 = 3 := by omega
  rcases this with e | e | e | e <;> rw [e] <;> simp only [gI4.1, gI4.2.1, gI4.2.2.1, gI4.2.2.2] <;> omega

theorem tone_are {t : Y.PT} {due : List (Option Int) × List Str} {p c : Int} (h : t = toneP p c ∧ ((0 ≤ p ∧ p ≤ 127) ∧ (1 ≤ c ∧ c ≤ 2000))) (hd : due = ([some c, some 1, some 1, some 1, some p, some p], [numT p ++ "." ++ numT c])) :
    (decide ([some t.m.cells, some t.m.leaves, some t.m.size, some t.m.depth, t.m.low, t.m.high] = due.1) && decide (wordsP t = due.2)) = true := by
  obtain ⟨rfl, _⟩ := h
  subst hd
  rw [wordsP_tone rfl]
  exact (Bool.and_eq_true _ _).mpr ⟨decide_eq_true rfl, decide_eq_true rfl⟩
theorem rest_are {t : Y.PT} {due : List (Option Int) × List Str} {c : Int} (h : t = restP c ∧ (1 ≤ c ∧ c ≤ 2000)) (hd : due = ([some c, some 1, some 1, some 1, none, none], [("r." : Str) ++ numT c])) :
    (decide ([some t.m.cells, some t.m.leaves, some t.m.size, some t.m.depth, t.m.low, t.m.high] = due.1) && decide (wordsP t = due.2)) = true := by
  obtain ⟨rfl, _⟩ := h
  subst hd
  rw [wordsP_rest rfl]
  exact (Bool.and_eq_true _ _).mpr ⟨decide_eq_true rfl, decide_eq_true rfl⟩

def spLaw (K : PySem.W.Frag) : Sp := (FSp (α := (List Int) × Unit) (ac (rsR K iR) an) (fun x => (x.1).length ≤ 63) (fun _ _ v => v = V.bl true))
def topS (i : Nat) : Stmt := PySem.Challenge.pw_pinbarrel_k08_tones_and_rests.main.body.getD i (.Pass ⟨0, 0, 0, 0⟩)
def clsB : Stmt → List Stmt
  | .ClassDef (body := b) .. => b
  | _ => []
abbrev s_Near_init : Stmt := (clsB (topS 4)).getD 0 (.Pass ⟨0, 0, 0, 0⟩)
theorem sc_Near_init : FnScope ["self", "one", "other"] ["self", "one", "other"] (defScope s_Near_init) := ⟨rfl, rfl, rfl, by decide +kernel, rfl, by decide +kernel, by decide +kernel⟩
abbrev s_NoSeam_init : Stmt := (clsB (topS 5)).getD 0 (.Pass ⟨0, 0, 0, 0⟩)
theorem sc_NoSeam_init : FnScope ["self", "start", "over"] ["self", "start", "over"] (defScope s_NoSeam_init) := ⟨rfl, rfl, rfl, by decide +kernel, rfl, by decide +kernel, by decide +kernel⟩
abbrev s_NoSense_init : Stmt := (clsB (topS 8)).getD 0 (.Pass ⟨0, 0, 0, 0⟩)
theorem sc_NoSense_init : FnScope ["self", "place"] ["self", "place"] (defScope s_NoSense_init) := ⟨rfl, rfl, rfl, by decide +kernel, rfl, by decide +kernel, by decide +kernel⟩
abbrev s_look_at : Stmt := topS 16
theorem sc_look_at : FnScope ["number", "least", "greatest"] ["number", "least", "greatest"] (defScope s_look_at) := ⟨rfl, rfl, rfl, by decide +kernel, rfl, by decide +kernel, by decide +kernel⟩
abbrev s_Part_cells : Stmt := (clsB (topS 17)).getD 1 (.Pass ⟨0, 0, 0, 0⟩)
theorem sc_Part_cells : FnScope ["self"] ["self"] (defScope s_Part_cells) := ⟨rfl, rfl, rfl, by decide +kernel, rfl, by decide +kernel, by decide +kernel⟩
abbrev s_Part_leaves : Stmt := (clsB (topS 17)).getD 2 (.Pass ⟨0, 0, 0, 0⟩)
theorem sc_Part_leaves : FnScope ["self"] ["self"] (defScope s_Part_leaves) := ⟨rfl, rfl, rfl, by decide +kernel, rfl, by decide +kernel, by decide +kernel⟩
abbrev s_Part_size : Stmt := (clsB (topS 17)).getD 3 (.Pass ⟨0, 0, 0, 0⟩)
theorem sc_Part_size : FnScope ["self"] ["self"] (defScope s_Part_size) := ⟨rfl, rfl, rfl, by decide +kernel, rfl, by decide +kernel, by decide +kernel⟩
abbrev s_Part_depth : Stmt := (clsB (topS 17)).getD 4 (.Pass ⟨0, 0, 0, 0⟩)
theorem sc_Part_depth : FnScope ["self"] ["self"] (defScope s_Part_depth) := ⟨rfl, rfl, rfl, by decide +kernel, rfl, by decide +kernel, by decide +kernel⟩
abbrev s_Part_lowest : Stmt := (clsB (topS 17)).getD 5 (.Pass ⟨0, 0, 0, 0⟩)
theorem sc_Part_lowest : FnScope ["self"] ["self"] (defScope s_Part_lowest) := ⟨rfl, rfl, rfl, by decide +kernel, rfl, by decide +kernel, by decide +kernel⟩
abbrev s_Part_highest : Stmt := (clsB (topS 17)).getD 6 (.Pass ⟨0, 0, 0, 0⟩)
theorem sc_Part_highest : FnScope ["self"] ["self"] (defScope s_Part_highest) := ⟨rfl, rfl, rfl, by decide +kernel, rfl, by decide +kernel, by decide +kernel⟩
abbrev s_Part_init : Stmt := (clsB (topS 17)).getD 0 (.Pass ⟨0, 0, 0, 0⟩)
theorem sc_Part_init : FnScope ["self", "inner", "long", "written", "part"] ["self", "inner", "long", "written"] (defScope s_Part_init) := ⟨rfl, rfl, rfl, by decide +kernel, rfl, by decide +kernel, by decide +kernel⟩
abbrev s_Tone_init : Stmt := (clsB (topS 18)).getD 0 (.Pass ⟨0, 0, 0, 0⟩)
theorem sc_Tone_init : FnScope ["self", "pitch", "cells"] ["self", "pitch", "cells"] (defScope s_Tone_init) := ⟨rfl, rfl, rfl, by decide +kernel, rfl, by decide +kernel, by decide +kernel⟩
abbrev s_Rest_init : Stmt := (clsB (topS 19)).getD 0 (.Pass ⟨0, 0, 0, 0⟩)
theorem sc_Rest_init : FnScope ["self", "cells"] ["self", "cells"] (defScope s_Rest_init) := ⟨rfl, rfl, rfl, by decide +kernel, rfl, by decide +kernel, by decide +kernel⟩
abbrev s_Tone_words : Stmt := (clsB (topS 18)).getD 1 (.Pass ⟨0, 0, 0, 0⟩)
theorem sc_Tone_words : FnScope ["self"] ["self"] (defScope s_Tone_words) := ⟨rfl, rfl, rfl, by decide +kernel, rfl, by decide +kernel, by decide +kernel⟩
abbrev s_Rest_words : Stmt := (clsB (topS 19)).getD 1 (.Pass ⟨0, 0, 0, 0⟩)
theorem sc_Rest_words : FnScope ["self"] ["self"] (defScope s_Rest_words) := ⟨rfl, rfl, rfl, by decide +kernel, rfl, by decide +kernel, by decide +kernel⟩
abbrev s_whole : Stmt := topS 21
theorem sc_whole : FnScope ["_law_found"] ["_law_found"] (defScope s_whole) := ⟨rfl, rfl, rfl, by decide +kernel, rfl, by decide +kernel, by decide +kernel⟩
abbrev s_kinds : Stmt := topS 22
theorem sc_kinds : FnScope ["_law_e", "_law_some"] ["_law_e"] (defScope s_kinds) := ⟨rfl, rfl, rfl, by decide +kernel, rfl, by decide +kernel, by decide +kernel⟩
abbrev s_are : Stmt := topS 23
theorem sc_are : FnScope ["_law_part", "_law_due", "_law_found", "_law_ends", "_law_number_here", "_law_end", "_law_words", "_law_word"] ["_law_part", "_law_due"] (defScope s_are) := ⟨rfl, rfl, rfl, by decide +kernel, rfl, by decide +kernel, by decide +kernel⟩
abbrev s_number : Stmt := topS 24
theorem sc_number : FnScope ["_law_cell", "_law_least", "_law_greatest", "_law_way"] ["_law_cell", "_law_least", "_law_greatest"] (defScope s_number) := ⟨rfl, rfl, rfl, by decide +kernel, rfl, by decide +kernel, by decide +kernel⟩
abbrev s_beyond : Stmt := topS 25
theorem sc_beyond : FnScope ["_law_cell", "_law_least", "_law_greatest", "_law_far"] ["_law_cell", "_law_least", "_law_greatest"] (defScope s_beyond) := ⟨rfl, rfl, rfl, by decide +kernel, rfl, by decide +kernel, by decide +kernel⟩
abbrev s_refused : Stmt := topS 26
theorem sc_refused : FnScope ["_law_pitch", "_law_cells", "_law_refused_here", "_law_e"] ["_law_pitch", "_law_cells"] (defScope s_refused) := ⟨rfl, rfl, rfl, by decide +kernel, rfl, by decide +kernel, by decide +kernel⟩
abbrev s_law : Stmt := topS 27
theorem sc_law : FnScope ["_law_script", "_law_cell", "_law_number_here", "_law_pitch", "_law_cells", "_law_due", "_law_part", "_law_k"] ["_law_script"] (defScope s_law) := ⟨rfl, rfl, rfl, by decide +kernel, rfl, by decide +kernel, by decide +kernel⟩
/-- where the defs stand -/
structure Ad where
  c_WorksError : Addr
  c_NoPart : Addr
  c_NoText : Addr
  c_Near : Addr
  a_Near_init : Addr
  d_Near_init : FuncData
  c_NoSeam : Addr
  a_NoSeam_init : Addr
  d_NoSeam_init : FuncData
  c_NoBarrel : Addr
  c_NoName : Addr
  c_NoSense : Addr
  a_NoSense_init : Addr
  d_NoSense_init : FuncData
  c_NoRow : Addr
  c_Part : Addr
  c_Tone : Addr
  c_Rest : Addr
  a_look_at : Addr
  d_look_at : FuncData
  a_Part_cells : Addr
  d_Part_cells : FuncData
  a_Part_leaves : Addr
  d_Part_leaves : FuncData
  a_Part_size : Addr
  d_Part_size : FuncData
  a_Part_depth : Addr
  d_Part_depth : FuncData
  a_Part_lowest : Addr
  d_Part_lowest : FuncData
  a_Part_highest : Addr
  d_Part_highest : FuncData
  a_Part_init : Addr
  d_Part_init : FuncData
  a_Tone_init : Addr
  d_Tone_init : FuncData
  a_Rest_init : Addr
  d_Rest_init : FuncData
  a_Tone_words : Addr
  d_Tone_words : FuncData
  a_Rest_words : Addr
  d_Rest_words : FuncData
  a_whole : Addr
  d_whole : FuncData
  a_kinds : Addr
  d_kinds : FuncData
  a_are : Addr
  d_are : FuncData
  a_number : Addr
  d_number : FuncData
  a_beyond : Addr
  d_beyond : FuncData
  a_refused : Addr
  d_refused : FuncData
  a_law : Addr
  d_law : FuncData
def Ad.pc (ad : Ad) : PKind → Addr
  | .tone => ad.c_Tone
  | .rest => ad.c_Rest
  | _ => ad.c_Tone
def Ad.m_words (ad : Ad) : PKind → Addr
  | .tone => ad.a_Tone_words
  | .rest => ad.a_Rest_words
  | _ => ad.a_Tone_words
structure Txt (K : PySem.W.Frag) (mg : Str → Option Value) (ad : Ad) : Prop where
  F_look_at : Fun K "look_at" "look_at" s_look_at ad.a_look_at ad.d_look_at
  g_look_at : mg "look_at" = some (.ref ad.a_look_at)
  b_look_at : Binds K ad.d_look_at ["number", "least", "greatest"] []
  F_Part_cells : Fun K "cells" "Part.cells" s_Part_cells ad.a_Part_cells ad.d_Part_cells
  b_Part_cells : Binds K ad.d_Part_cells ["self"] []
  F_Part_leaves : Fun K "leaves" "Part.leaves" s_Part_leaves ad.a_Part_leaves ad.d_Part_leaves
  b_Part_leaves : Binds K ad.d_Part_leaves ["self"] []
  F_Part_size : Fun K "size" "Part.size" s_Part_size ad.a_Part_size ad.d_Part_size
  b_Part_size : Binds K ad.d_Part_size ["self"] []
  F_Part_depth : Fun K "depth" "Part.depth" s_Part_depth ad.a_Part_depth ad.d_Part_depth
  b_Part_depth : Binds K ad.d_Part_depth ["self"] []
  F_Part_lowest : Fun K "lowest" "Part.lowest" s_Part_lowest ad.a_Part_lowest ad.d_Part_lowest
  b_Part_lowest : Binds K ad.d_Part_lowest ["self"] []
  F_Part_highest : Fun K "highest" "Part.highest" s_Part_highest ad.a_Part_highest ad.d_Part_highest
  b_Part_highest : Binds K ad.d_Part_highest ["self"] []
  F_Part_init : Fun K "__init__" "Part.__init__" s_Part_init ad.a_Part_init ad.d_Part_init
  b_Part_init : Binds K ad.d_Part_init ["self", "inner", "long", "written"] []
  F_Tone_init : Fun K "__init__" "Tone.__init__" s_Tone_init ad.a_Tone_init ad.d_Tone_init
  b_Tone_init : Binds K ad.d_Tone_init ["self", "pitch", "cells"] []
  F_Rest_init : Fun K "__init__" "Rest.__init__" s_Rest_init ad.a_Rest_init ad.d_Rest_init
  b_Rest_init : Binds K ad.d_Rest_init ["self", "cells"] []
  F_Tone_words : Fun K "words" "Tone.words" s_Tone_words ad.a_Tone_words ad.d_Tone_words
  b_Tone_words : Binds K ad.d_Tone_words ["self"] []
  F_Rest_words : Fun K "words" "Rest.words" s_Rest_words ad.a_Rest_words ad.d_Rest_words
  b_Rest_words : Binds K ad.d_Rest_words ["self"] []
  F_whole : Fun K "_law_whole" "_law_whole" s_whole ad.a_whole ad.d_whole
  g_whole : mg "_law_whole" = some (.ref ad.a_whole)
  b_whole : Binds K ad.d_whole ["_law_found"] []
  F_kinds : Fun K "_law_kinds" "_law_kinds" s_kinds ad.a_kinds ad.d_kinds
  g_kinds : mg "_law_kinds" = some (.ref ad.a_kinds)
  b_kinds : Binds K ad.d_kinds ["_law_e"] []
  F_are : Fun K "_law_are" "_law_are" s_are ad.a_are ad.d_are
  g_are : mg "_law_are" = some (.ref ad.a_are)
  b_are : Binds K ad.d_are ["_law_part", "_law_due"] []
  F_number : Fun K "_law_number" "_law_number" s_number ad.a_number ad.d_number
  g_number : mg "_law_number" = some (.ref ad.a_number)
  b_number : Binds K ad.d_number ["_law_cell", "_law_least", "_law_greatest"] []
  F_beyond : Fun K "_law_beyond" "_law_beyond" s_beyond ad.a_beyond ad.d_beyond
  g_beyond : mg "_law_beyond" = some (.ref ad.a_beyond)
  b_beyond : Binds K ad.d_beyond ["_law_cell", "_law_least", "_law_greatest"] []
  F_refused : Fun K "_law_refused" "_law_refused" s_refused ad.a_refused ad.d_refused
  g_refused : mg "_law_refused" = some (.ref ad.a_refused)
  b_refused : Binds K ad.d_refused ["_law_pitch", "_law_cells"] []
  F_law : Fun K "law" "law" s_law ad.a_law ad.d_law
  g_law : mg "law" = some (.ref ad.a_law)
  b_law : Binds K ad.d_law ["_law_script"] []
  k_WorksError : mg "WorksError" = some (.ref ad.c_WorksError)
  k_NoPart : mg "NoPart" = some (.ref ad.c_NoPart)
  k_NoText : mg "NoText" = some (.ref ad.c_NoText)
  k_Near : mg "Near" = some (.ref ad.c_Near)
  o_Near : OexC K ad.c_Near
  i_Near : PySem.W.findIn K (.ref ad.c_Near) "__init__" = some (some (.ref ad.a_Near_init))
  t_Near : PySem.W.typeIn K (.ref ad.a_Near_init) = some (.type "function")
  F_Near_init : Fun K "__init__" "Near.__init__" s_Near_init ad.a_Near_init ad.d_Near_init
  b_Near : Binds K ad.d_Near_init ["self", "one", "other"] []
  n_Near_one : PySem.W.findIn K (.ref ad.c_Near) "one" = some none
  n_Near_other : PySem.W.findIn K (.ref ad.c_Near) "other" = some none
  B_Near : BaseC K ad.c_WorksError (.type "type")
  k_NoSeam : mg "NoSeam" = some (.ref ad.c_NoSeam)
  o_NoSeam : OexC K ad.c_NoSeam
  i_NoSeam : PySem.W.findIn K (.ref ad.c_NoSeam) "__init__" = some (some (.ref ad.a_NoSeam_init))
  t_NoSeam : PySem.W.typeIn K (.ref ad.a_NoSeam_init) = some (.type "function")
  F_NoSeam_init : Fun K "__init__" "NoSeam.__init__" s_NoSeam_init ad.a_NoSeam_init ad.d_NoSeam_init
  b_NoSeam : Binds K ad.d_NoSeam_init ["self", "start", "over"] []
  n_NoSeam_start : PySem.W.findIn K (.ref ad.c_NoSeam) "start" = some none
  n_NoSeam_over : PySem.W.findIn K (.ref ad.c_NoSeam) "over" = some none
  B_NoSeam : BaseC K ad.c_WorksError (.type "type")
  k_NoBarrel : mg "NoBarrel" = some (.ref ad.c_NoBarrel)
  k_NoName : mg "NoName" = some (.ref ad.c_NoName)
  k_NoSense : mg "NoSense" = some (.ref ad.c_NoSense)
  o_NoSense : OexC K ad.c_NoSense
  i_NoSense : PySem.W.findIn K (.ref ad.c_NoSense) "__init__" = some (some (.ref ad.a_NoSense_init))
  t_NoSense : PySem.W.typeIn K (.ref ad.a_NoSense_init) = some (.type "function")
  F_NoSense_init : Fun K "__init__" "NoSense.__init__" s_NoSense_init ad.a_NoSense_init ad.d_NoSense_init
  b_NoSense : Binds K ad.d_NoSense_init ["self", "place"] []
  n_NoSense_place : PySem.W.findIn K (.ref ad.c_NoSense) "place" = some none
  B_NoSense : BaseC K ad.c_WorksError (.type "type")
  k_NoRow : mg "NoRow" = some (.ref ad.c_NoRow)
  PC : PCls K ad.pc
  me_cells : ∀ k, Meth K (ad.pc k) "cells" ad.a_Part_cells
  me_depth : ∀ k, Meth K (ad.pc k) "depth" ad.a_Part_depth
  me_highest : ∀ k, Meth K (ad.pc k) "highest" ad.a_Part_highest
  me_leaves : ∀ k, Meth K (ad.pc k) "leaves" ad.a_Part_leaves
  me_lowest : ∀ k, Meth K (ad.pc k) "lowest" ad.a_Part_lowest
  me_size : ∀ k, Meth K (ad.pc k) "size" ad.a_Part_size
  me_words : ∀ k, Meth K (ad.pc k) "words" (ad.m_words k)
  pk_Part : mg "Part" = some (.ref ad.c_Part)
  pk_Rest : mg "Rest" = some (.ref ad.c_Rest)
  pk_Tone : mg "Tone" = some (.ref ad.c_Tone)
  mk_Rest : Mk K ad.c_Rest ad.a_Rest_init
  mk_Tone : Mk K ad.c_Tone ad.a_Tone_init
  BF : BaseF K ad.c_Part (.type "type") "__init__" ad.a_Part_init
  xi_NoPart : PySem.W.excIn K ad.c_NoPart [.type "ValueError", .type "Exception", .type "BaseException", .type "object"] "ValueError.__new__" = true
  kq_NoPart : PySem.W.keepIn K (.ref ad.c_NoPart) = true
  rb_NoPart : PySem.W.subIn K (.ref ad.c_NoPart) (.type "BaseException") = some true
  rt_NoPart : PySem.W.typeIn K (.ref ad.c_NoPart) = some (.type "type")
  xc_NoPart : ExcC K ad.c_NoPart
  kt_NoPart_Near : PySem.W.kitOne K (.ref ad.c_NoPart) (.ref ad.c_Near) = some false
  kt_NoPart_NoBarrel : PySem.W.kitOne K (.ref ad.c_NoPart) (.ref ad.c_NoBarrel) = some false
  kt_NoPart_NoName : PySem.W.kitOne K (.ref ad.c_NoPart) (.ref ad.c_NoName) = some false
  kt_NoPart_NoRow : PySem.W.kitOne K (.ref ad.c_NoPart) (.ref ad.c_NoRow) = some false
  kt_NoPart_NoSeam : PySem.W.kitOne K (.ref ad.c_NoPart) (.ref ad.c_NoSeam) = some false
  kt_NoPart_NoSense : PySem.W.kitOne K (.ref ad.c_NoPart) (.ref ad.c_NoSense) = some false
  kt_NoPart_NoText : PySem.W.kitOne K (.ref ad.c_NoPart) (.ref ad.c_NoText) = some false
  kt_NoPart_ValueError : PySem.W.kitOne K (.ref ad.c_NoPart) (.type "ValueError") = some true
  kt_NoPart_WorksError : PySem.W.kitOne K (.ref ad.c_NoPart) (.ref ad.c_WorksError) = some true
  x_NoPart_NoPart : PySem.W.exmOne K (.ref ad.c_NoPart) (.ref ad.c_NoPart) = some true
  ValueError_n : mg "ValueError" = none
  bool_n : mg "bool" = none
  int_n : mg "int" = none
  isinstance_n : mg "isinstance" = none
  list_n : mg "list" = none
  max_n : mg "max" = none
  min_n : mg "min" = none
  range_n : mg "range" = none
  str_n : mg "str" = none
  sum_n : mg "sum" = none
  c_MOST_CELLS : ∃ t, mg "MOST_CELLS" = some (.int 2000 t)
  c_MOST_LEAVES : ∃ t, mg "MOST_LEAVES" = some (.int 900 t)
  c_MOST_SIZE : ∃ t, mg "MOST_SIZE" = some (.int 1500 t)
  c_MOST_DEPTH : ∃ t, mg "MOST_DEPTH" = some (.int 12 t)
  c_HIGHEST : ∃ t, mg "HIGHEST" = some (.int 127 t)
section
variable {P : Program} {w : World} {K : PySem.W.Frag} {mg : Str → Option Value} {base : Heap} {ad : Ad}
theorem ok_Near_init (T : Txt K mg ad) : FnOk P w K mg base CX0 1 ad.a_Near_init ad.d_Near_init ["self", "one", "other"] (spInit K ad.c_Near ["one", "other"]) := by
  have len : ∀ ws : List V, ws.length = (["one", "other"] : List Str).length → ∃ v0 v1, ws = [v0, v1] := fun ws h => match ws, h with | [v0, v1], _ => ⟨v0, v1, rfl⟩
  refine ok_def T.F_Near_init sc_Near_init (fun vs H Q E h => ?_) (fun cdv A outer s H vs Q E hr h => ?_)
  · obtain ⟨a, ws, rfl, hl, _⟩ := h
    obtain ⟨v0, v1, rfl⟩ := len ws hl; rfl
  obtain ⟨a, ws, rfl, hl, hT, hH, kk⟩ := h
  obtain ⟨v0, v1, rfl⟩ := len ws hl
  show WSs _ _ _ [some (.ref a), some v0, some v1] _
  refine wss_cons (ws_of (ps_expr (pe_binit (pl := _) T.B_Near rfl T.k_WorksError (pa_cons (pe_var (i := 0) rfl (Or.inl rfl) (by decide) (by decide)) (pa_cons pe_str pa_nil rfl) rfl))) ⟨_, rfl, a, ad.c_Near, [.str _], rfl, by simp, hT, hH, ?_⟩)
  refine wss_cons (ws_of (ps_ost (pe_var (i := 0) rfl (Or.inl rfl) (by decide) (by decide)) (pe_var (i := 1) rfl (Or.inl rfl) (by decide) (by decide))) ⟨_, rfl, _, rfl, a, ad.c_Near, rfl, hT, T.n_Near_one, .inl ⟨hH, fun dx hd hda => ?_⟩⟩)
  refine wss_cons (ws_of (ps_ost (pe_var (i := 0) rfl (Or.inl rfl) (by decide) (by decide)) (pe_var (i := 2) rfl (Or.inl rfl) (by decide) (by decide))) ⟨_, rfl, _, rfl, a, ad.c_Near, rfl, hT, T.n_Near_other, .inr ⟨dx, _, upd_same, (upd_ne hda).trans upd_same, by simp, ?_⟩⟩)
  exact wss_nil (kk _ dx hd hda ((upd_ne hda.symm).trans upd_same) upd_same fun b h1 h2 => (upd_ne h2).trans ((upd_ne h1).trans (upd_ne h2)))
theorem ok_NoSeam_init (T : Txt K mg ad) : FnOk P w K mg base CX0 1 ad.a_NoSeam_init ad.d_NoSeam_init ["self", "start", "over"] (spInit K ad.c_NoSeam ["start", "over"]) := by
  have len : ∀ ws : List V, ws.length = (["start", "over"] : List Str).length → ∃ v0 v1, ws = [v0, v1] := fun ws h => match ws, h with | [v0, v1], _ => ⟨v0, v1, rfl⟩
  refine ok_def T.F_NoSeam_init sc_NoSeam_init (fun vs H Q E h => ?_) (fun cdv A outer s H vs Q E hr h => ?_)
  · obtain ⟨a, ws, rfl, hl, _⟩ := h
    obtain ⟨v0, v1, rfl⟩ := len ws hl; rfl
  obtain ⟨a, ws, rfl, hl, hT, hH, kk⟩ := h
  obtain ⟨v0, v1, rfl⟩ := len ws hl
  show WSs _ _ _ [some (.ref a), some v0, some v1] _
  refine wss_cons (ws_of (ps_expr (pe_binit (pl := _) T.B_NoSeam rfl T.k_WorksError (pa_cons (pe_var (i := 0) rfl (Or.inl rfl) (by decide) (by decide)) (pa_cons pe_str pa_nil rfl) rfl))) ⟨_, rfl, a, ad.c_NoSeam, [.str _], rfl, by simp, hT, hH, ?_⟩)
  refine wss_cons (ws_of (ps_ost (pe_var (i := 0) rfl (Or.inl rfl) (by decide) (by decide)) (pe_var (i := 1) rfl (Or.inl rfl) (by decide) (by decide))) ⟨_, rfl, _, rfl, a, ad.c_NoSeam, rfl, hT, T.n_NoSeam_start, .inl ⟨hH, fun dx hd hda => ?_⟩⟩)
  refine wss_cons (ws_of (ps_ost (pe_var (i := 0) rfl (Or.inl rfl) (by decide) (by decide)) (pe_var (i := 2) rfl (Or.inl rfl) (by decide) (by decide))) ⟨_, rfl, _, rfl, a, ad.c_NoSeam, rfl, hT, T.n_NoSeam_over, .inr ⟨dx, _, upd_same, (upd_ne hda).trans upd_same, by simp, ?_⟩⟩)
  exact wss_nil (kk _ dx hd hda ((upd_ne hda.symm).trans upd_same) upd_same fun b h1 h2 => (upd_ne h2).trans ((upd_ne h1).trans (upd_ne h2)))
theorem ok_NoSense_init (T : Txt K mg ad) : FnOk P w K mg base CX0 1 ad.a_NoSense_init ad.d_NoSense_init ["self", "place"] (spInit K ad.c_NoSense ["place"]) := by
  have len : ∀ ws : List V, ws.length = (["place"] : List Str).length → ∃ v0, ws = [v0] := fun ws h => match ws, h with | [v0], _ => ⟨v0, rfl⟩
  refine ok_def T.F_NoSense_init sc_NoSense_init (fun vs H Q E h => ?_) (fun cdv A outer s H vs Q E hr h => ?_)
  · obtain ⟨a, ws, rfl, hl, _⟩ := h
    obtain ⟨v0, rfl⟩ := len ws hl; rfl
  obtain ⟨a, ws, rfl, hl, hT, hH, kk⟩ := h
  obtain ⟨v0, rfl⟩ := len ws hl
  show WSs _ _ _ [some (.ref a), some v0] _
  refine wss_cons (ws_of (ps_expr (pe_binit (pl := _) T.B_NoSense rfl T.k_WorksError (pa_cons (pe_var (i := 0) rfl (Or.inl rfl) (by decide) (by decide)) (pa_cons pe_str pa_nil rfl) rfl))) ⟨_, rfl, a, ad.c_NoSense, [.str _], rfl, by simp, hT, hH, ?_⟩)
  refine wss_cons (ws_of (ps_ost (pe_var (i := 0) rfl (Or.inl rfl) (by decide) (by decide)) (pe_var (i := 1) rfl (Or.inl rfl) (by decide) (by decide))) ⟨_, rfl, _, rfl, a, ad.c_NoSense, rfl, hT, T.n_NoSense_place, .inl ⟨hH, fun dx hd hda => ?_⟩⟩)
  exact wss_nil (kk _ dx hd hda upd_same ((upd_ne hda).trans upd_same) fun b h1 h2 => (upd_ne h1).trans (upd_ne h2))
theorem ok_look_at (T : Txt K mg ad) : FnOk P w K mg base (L2.CX P w) 1 ad.a_look_at ad.d_look_at ["number", "least", "greatest"] (FSpX (α := Int × Int × Int × Unit) (ac iR (ac iR (ac iR an))) (fun x => True) (fun x F v => v = V.non ∧ (x.2.1 ≤ x.1 ∧ x.1 ≤ x.2.2.1)) (fun x F c d => (c = Value.ref ad.c_NoPart ∧ d = none) ∧ (¬ (x.2.1 ≤ x.1 ∧ x.1 ≤ x.2.2.1)))) := by
  have nd : List.Nodup (α := Str) ["number", "least", "greatest"] := sc_look_at.nd
  refine ok_defX T.F_look_at sc_look_at (fun vs H Q E h => ?_) (fun cdv A outer s H vs Q E hr h tk => ?_)
  · obtain ⟨F, M, x, ⟨_, _, rfl, _, ⟨_, _, rfl, _, ⟨_, _, rfl, _, rfl⟩⟩⟩, _⟩ := h; rfl
  obtain ⟨F, M, ⟨number, least, greatest, _⟩, ⟨v0, us0, rfl, hp0, ⟨v1, us1, rfl, hp1, ⟨v2, us2, rfl, hp2, rfl⟩⟩⟩, hpre, w, kk, kx⟩ := h
  have h_number : iR F v0 number := hp0
  cases (show v0 = V.int number from h_number)
  have h_least : iR F v1 least := hp1
  cases (show v1 = V.int least from h_least)
  have h_greatest : iR F v2 greatest := hp2
  cases (show v2 = V.int greatest from h_greatest)
  show WSs _ _ _ [some (.int number), some (.int least), some (.int greatest)] _
  refine ss_if (bx_l (bl_or (bx_lt (ev_var (r := iR) 0 rfl rfl) (ev_var (r := iR) 1 rfl rfl)) fun g1 => (bl_one_or (bx_gt (ev_var (r := iR) 0 rfl rfl) (ev_var (r := iR) 2 rfl rfl))))) w (fun cR0 H1 w => ?_) (fun cR0 H1 w => ?_)
  · have cN0 := cR0; try simp only [Bool.or_eq_true, Bool.or_eq_false_iff, Bool.and_eq_true, Bool.and_eq_false_imp, decide_eq_true_eq, decide_eq_false_iff_not, Bool.not_eq_true', Bool.not_eq_false', Bool.not_true, Bool.not_false, Int.not_lt, Int.not_le] at cN0
    refine ss_raise rfl tk (pmk_own PySem.F.excBase_ValueError T.xi_NoPart T.k_NoPart T.kq_NoPart (raises_own T.rb_NoPart T.rt_NoPart) rfl) ?_
    exact kx _ _ _ _ (Same.refl _) (w.lessM (Same.refl _)) (show (Value.ref ad.c_NoPart = Value.ref ad.c_NoPart ∧ (none : Option Addr) = none) ∧ (¬ (least ≤ number ∧ number ≤ greatest)) from (by /-raise.0-/ exact ⟨⟨rfl, rfl⟩, by omega⟩))
  · have cN0 := cR0; try simp only [Bool.or_eq_true, Bool.or_eq_false_iff, Bool.and_eq_true, Bool.and_eq_false_imp, decide_eq_true_eq, decide_eq_false_iff_not, Bool.not_eq_true', Bool.not_eq_false', Bool.not_true, Bool.not_false, Int.not_lt, Int.not_le] at cN0
    refine ss_nil ?_
    show WSs _ _ _ [some (.int number), some (.int least), some (.int greatest)] _
    refine ss_nil ?_
    exact kk _ _ _ (Same.refl _) w (show _ ∧ (least ≤ number ∧ number ≤ greatest) from ⟨rfl, (by /-ret-/ omega)⟩)
theorem ok_Part_cells (T : Txt K mg ad) : FnOk P w K mg base CX0 1 ad.a_Part_cells ad.d_Part_cells ["self"] (FSp (α := PT × Unit) (ac (pR ad.pc) an) (fun x => True) (fun x F v => iR F v (x.1.m.cells))) := by
  have nd : List.Nodup (α := Str) ["self"] := sc_Part_cells.nd
  refine ok_def T.F_Part_cells sc_Part_cells (fun vs H Q E h => ?_) (fun cdv A outer s H vs Q E hr h => ?_)
  · obtain ⟨F, M, x, ⟨_, _, rfl, _, rfl⟩, _⟩ := h; rfl
  obtain ⟨F, M, ⟨self, _⟩, ⟨v0, us0, rfl, hp0, rfl⟩, hpre, w, kk⟩ := h
  have h_self : (pR ad.pc) F v0 self := hp0
  show WSs _ _ _ [some v0] _
  refine ss_ret (ev_long T.PC (ev_var 0 rfl h_self)) w (fun F1 H1 v1 s1 w (hv1 : iR F1 v1 self.m.cells) => kk _ _ _ ((Same.refl _).trans s1) (w.lessM (Same.refl _)) ?_)
  show iR F1 v1 (self.m.cells)
  have hq : self.m.cells = (self.m.cells) := (by /-ret.0-/ rfl)
  rw [← hq]; exact hv1
theorem ok_Part_leaves (T : Txt K mg ad) : FnOk P w K mg base CX0 1 ad.a_Part_leaves ad.d_Part_leaves ["self"] (FSp (α := PT × Unit) (ac (pR ad.pc) an) (fun x => True) (fun x F v => iR F v (x.1.m.leaves))) := by
  have nd : List.Nodup (α := Str) ["self"] := sc_Part_leaves.nd
  refine ok_def T.F_Part_leaves sc_Part_leaves (fun vs H Q E h => ?_) (fun cdv A outer s H vs Q E hr h => ?_)
  · obtain ⟨F, M, x, ⟨_, _, rfl, _, rfl⟩, _⟩ := h; rfl
  obtain ⟨F, M, ⟨self, _⟩, ⟨v0, us0, rfl, hp0, rfl⟩, hpre, w, kk⟩ := h
  have h_self : (pR ad.pc) F v0 self := hp0
  show WSs _ _ _ [some v0] _
  refine ss_ret (ev_written T.PC (ev_var 0 rfl h_self)) w (fun F1 H1 v1 s1 w (hv1 : iR F1 v1 self.m.leaves) => kk _ _ _ ((Same.refl _).trans s1) (w.lessM (Same.refl _)) ?_)
  show iR F1 v1 (self.m.leaves)
  have hq : self.m.leaves = (self.m.leaves) := (by /-ret.0-/ rfl)
  rw [← hq]; exact hv1
theorem ok_Part_size (T : Txt K mg ad) : FnOk P w K mg base CX0 1 ad.a_Part_size ad.d_Part_size ["self"] (FSp (α := PT × Unit) (ac (pR ad.pc) an) (fun x => True) (fun x F v => iR F v (x.1.m.size))) := by
  have nd : List.Nodup (α := Str) ["self"] := sc_Part_size.nd
  refine ok_def T.F_Part_size sc_Part_size (fun vs H Q E h => ?_) (fun cdv A outer s H vs Q E hr h => ?_)
  · obtain ⟨F, M, x, ⟨_, _, rfl, _, rfl⟩, _⟩ := h; rfl
  obtain ⟨F, M, ⟨self, _⟩, ⟨v0, us0, rfl, hp0, rfl⟩, hpre, w, kk⟩ := h
  have h_self : (pR ad.pc) F v0 self := hp0
  show WSs _ _ _ [some v0] _
  refine ss_ret (ev_held T.PC (ev_var 0 rfl h_self)) w (fun F1 H1 v1 s1 w (hv1 : iR F1 v1 self.m.size) => kk _ _ _ ((Same.refl _).trans s1) (w.lessM (Same.refl _)) ?_)
  show iR F1 v1 (self.m.size)
  have hq : self.m.size = (self.m.size) := (by /-ret.0-/ rfl)
  rw [← hq]; exact hv1
theorem ok_Part_depth (T : Txt K mg ad) : FnOk P w K mg base CX0 1 ad.a_Part_depth ad.d_Part_depth ["self"] (FSp (α := PT × Unit) (ac (pR ad.pc) an) (fun x => True) (fun x F v => iR F v (x.1.m.depth))) := by
  have nd : List.Nodup (α := Str) ["self"] := sc_Part_depth.nd
  refine ok_def T.F_Part_depth sc_Part_depth (fun vs H Q E h => ?_) (fun cdv A outer s H vs Q E hr h => ?_)
  · obtain ⟨F, M, x, ⟨_, _, rfl, _, rfl⟩, _⟩ := h; rfl
  obtain ⟨F, M, ⟨self, _⟩, ⟨v0, us0, rfl, hp0, rfl⟩, hpre, w, kk⟩ := h
  have h_self : (pR ad.pc) F v0 self := hp0
  show WSs _ _ _ [some v0] _
  refine ss_ret (ev_deep T.PC (ev_var 0 rfl h_self)) w (fun F1 H1 v1 s1 w (hv1 : iR F1 v1 self.m.depth) => kk _ _ _ ((Same.refl _).trans s1) (w.lessM (Same.refl _)) ?_)
  show iR F1 v1 (self.m.depth)
  have hq : self.m.depth = (self.m.depth) := (by /-ret.0-/ rfl)
  rw [← hq]; exact hv1
theorem ok_Part_lowest (T : Txt K mg ad) : FnOk P w K mg base CX0 1 ad.a_Part_lowest ad.d_Part_lowest ["self"] (FSp (α := PT × Unit) (ac (pR ad.pc) an) (fun x => True) (fun x F v => (oR iR) F v (x.1.m.low))) := by
  have nd : List.Nodup (α := Str) ["self"] := sc_Part_lowest.nd
  refine ok_def T.F_Part_lowest sc_Part_lowest (fun vs H Q E h => ?_) (fun cdv A outer s H vs Q E hr h => ?_)
  · obtain ⟨F, M, x, ⟨_, _, rfl, _, rfl⟩, _⟩ := h; rfl
  obtain ⟨F, M, ⟨self, _⟩, ⟨v0, us0, rfl, hp0, rfl⟩, hpre, w, kk⟩ := h
  have h_self : (pR ad.pc) F v0 self := hp0
  show WSs _ _ _ [some v0] _
  refine ss_ret (ev_low T.PC (ev_var 0 rfl h_self)) w (fun F1 H1 v1 s1 w (hv1 : (oR iR) F1 v1 self.m.low) => kk _ _ _ ((Same.refl _).trans s1) (w.lessM (Same.refl _)) ?_)
  show (oR iR) F1 v1 (self.m.low)
  have hq : self.m.low = (self.m.low) := (by /-ret.0-/ rfl)
  rw [← hq]; exact hv1
theorem ok_Part_highest (T : Txt K mg ad) : FnOk P w K mg base CX0 1 ad.a_Part_highest ad.d_Part_highest ["self"] (FSp (α := PT × Unit) (ac (pR ad.pc) an) (fun x => True) (fun x F v => (oR iR) F v (x.1.m.high))) := by
  have nd : List.Nodup (α := Str) ["self"] := sc_Part_highest.nd
  refine ok_def T.F_Part_highest sc_Part_highest (fun vs H Q E h => ?_) (fun cdv A outer s H vs Q E hr h => ?_)
  · obtain ⟨F, M, x, ⟨_, _, rfl, _, rfl⟩, _⟩ := h; rfl
  obtain ⟨F, M, ⟨self, _⟩, ⟨v0, us0, rfl, hp0, rfl⟩, hpre, w, kk⟩ := h
  have h_self : (pR ad.pc) F v0 self := hp0
  show WSs _ _ _ [some v0] _
  refine ss_ret (ev_high T.PC (ev_var 0 rfl h_self)) w (fun F1 H1 v1 s1 w (hv1 : (oR iR) F1 v1 self.m.high) => kk _ _ _ ((Same.refl _).trans s1) (w.lessM (Same.refl _)) ?_)
  show (oR iR) F1 v1 (self.m.high)
  have hq : self.m.high = (self.m.high) := (by /-ret.0-/ rfl)
  rw [← hq]; exact hv1
theorem ok_Part_init (T : Txt K mg ad) : FnOk P w K mg base (L2.CX P w) 2 ad.a_Part_init ad.d_Part_init ["self", "inner", "long", "written"] (FSpI (α := (List PT) × Int × Int × Unit) (fun C => ∃ k, C = ad.pc k) (ac (lR (pR ad.pc)) (ac iR (ac iR an))) (fun x => (x.1).length < 1000 ∧ ∀ t ∈ x.1, Sound t) (fun x F fs => PMade ad.pc F fs (mkB .row 0 x.1 x.2.1 x.2.2.1) ∧ (okM (measB x.1 x.2.1 x.2.2.1))) (fun x F c d => (c = Value.ref ad.c_NoPart ∧ d = none) ∧ (¬ (okM (measB x.1 x.2.1 x.2.2.1))))) := by
  have nd : List.Nodup (α := Str) ["self", "inner", "long", "written", "part"] := sc_Part_init.nd
  refine ok_defX T.F_Part_init sc_Part_init (fun vs H Q E h => ?_) (fun cdv A outer s H vs Q E hr h tk => ?_)
  · obtain ⟨F, M, C, x, dx, us, a, rfl, ⟨_, _, rfl, _, ⟨_, _, rfl, _, ⟨_, _, rfl, _, rfl⟩⟩⟩, _⟩ := h; rfl
  obtain ⟨F, M, sC, sx, sd, us_, ⟨inner, long, written, _⟩, rfl, ⟨v0, us0, rfl, hp0, ⟨v1, us1, rfl, hp1, ⟨v2, us2, rfl, hp2, rfl⟩⟩⟩, hpre, ⟨kk_, rfl⟩, ne_s, nx, nd_s, w, kk, kx⟩ := h
  have h_inner : (lR (pR ad.pc)) F v0 inner := hp0
  have h_long : iR F v1 long := hp1
  cases (show v1 = V.int long from h_long)
  have h_written : iR F v2 written := hp2
  cases (show v2 = V.int written from h_written)
  have hpre : (inner).length < 1000 ∧ ∀ t ∈ inner, Sound t := hpre
  show WSs _ _ _ [some (.ref sx), some v0, some (.int long), some (.int written), none] _
  refine ss_sfld (Φ := fun F v => (lR (pR ad.pc)) F v inner) 0 rfl (T.PC.c _) (T.PC.n _ _ (by decide)) upd_same (ev_var 1 rfl h_inner) w (by simp) (fun F1 M2 H1 v4 s1 e2 w (hv1 : (lR (pR ad.pc)) F1 v4 inner) => ?_)
  have h_inner_1 := Mono.mono s1 h_inner
  subst e2
  replace w : Own F1 (upd (upd M sd (.own sx)) sx (.ins (ad.pc kk_) sd [("inner", v4)])) H1 := w.cast (upd_upd.trans rfl)
  refine ss_sfld (Φ := fun F v => iR F v long) 0 rfl (T.PC.c _) (T.PC.n _ _ (by decide)) upd_same (ev_var (r := iR) 2 rfl rfl) w (by simp) (fun F2 M2 H2 v5 s2 e2 w (hv2 : iR F2 v5 long) => ?_)
  have h_inner_2 := Mono.mono s2 h_inner_1
  have h_self_inner_1 := Mono.mono s2 hv1
  cases (show v5 = V.int long from hv2)
  subst e2
  replace w : Own F2 (upd (upd M sd (.own sx)) sx (.ins (ad.pc kk_) sd [("inner", v4), ("long", .int long)])) H2 := w.cast (upd_upd.trans rfl)
  refine ss_sfld (Φ := fun F v => iR F v written) 0 rfl (T.PC.c _) (T.PC.n _ _ (by decide)) upd_same (ev_var (r := iR) 3 rfl rfl) w (by simp) (fun F3 M2 H3 v6 s3 e2 w (hv3 : iR F3 v6 written) => ?_)
  have h_inner_3 := Mono.mono s3 h_inner_2
  have h_self_inner_2 := Mono.mono s3 h_self_inner_1
  cases (show v6 = V.int written from hv3)
  subst e2
  replace w : Own F3 (upd (upd M sd (.own sx)) sx (.ins (ad.pc kk_) sd [("inner", v4), ("long", .int long), ("written", .int written)])) H3 := w.cast (upd_upd.trans rfl)
  refine ss_sfld (Φ := fun F v => iR F v ((1 : Int) + (((inner.filter (fun (part_c1 : PT) => true)).map (fun (part_c1 : PT) => part_c1.m.size))).sum)) 0 rfl (T.PC.c _) (T.PC.n _ _ (by decide)) upd_same (ev_add ev_int (ev_sum rfl T.sum_n (Ev.rd (EvN.fz (en_lc (r := (pR ad.pc)) (s := iR) (hb := show blkC ["self", "inner", "long", "written", "part"] (defScope s_Part_init) _ [("part", 4)] = true from by decide +kernel) 4 (fun (part_c1 : PT) => true) (fun (part_c1 : PT) => part_c1.m.size) (ei_list (r := (pR ad.pc)) (Ev.rs (ev_var 1 rfl h_inner_3))) (fun part_c1 vpart_c1 Fc1 Mc1 hm1 sc1 sm1 hpart_c1 Y hY => by obtain ⟨_, _, _, _, _, rfl⟩ := hY; have u1 := Mono.sub sc1 h_inner_3; have u2 := Mono.sub sc1 h_self_inner_2; exact ⟨ets_nil, fun g1 => (show EvF _ _ _ _ _ iR (part_c1.m.size) from ev_pmeth T.PC (T.me_size _) (ok_Part_size T) (hr.mono (by decide)) T.b_Part_size (ev_var 4 rfl hpart_c1) trivial)⟩) (by /-lc.0-/ exact Nat.lt_of_lt_of_le hpre.1 (by decide)) nd))))) w (by simp) (fun F4 M2 H4 v7 s4 e2 w (hv4 : iR F4 v7 ((1 : Int) + (((inner.filter (fun (part_c1 : PT) => true)).map (fun (part_c1 : PT) => part_c1.m.size))).sum)) => ?_)
  have h_inner_4 := Mono.mono s4 h_inner_3
  have h_self_inner_3 := Mono.mono s4 h_self_inner_2
  cases (show v7 = V.int ((1 : Int) + (((inner.filter (fun (part_c1 : PT) => true)).map (fun (part_c1 : PT) => part_c1.m.size))).sum) from hv4)
  obtain ⟨held1, e_held1⟩ : ∃ z, z = ((1 : Int) + (((inner.filter (fun (part_c1 : PT) => true)).map (fun (part_c1 : PT) => part_c1.m.size))).sum) := ⟨_, rfl⟩
  rw [← e_held1] at e2
  subst e2
  replace w : Own F4 (upd (upd M sd (.own sx)) sx (.ins (ad.pc kk_) sd [("inner", v4), ("long", .int long), ("written", .int written), ("held", .int held1)])) H4 := w.cast (upd_upd.trans rfl)
  refine ss_sfld (Φ := fun F v => iR F v ((1 : Int) + (mxD (0 : Int) ((inner.filter (fun (part_c2 : PT) => true)).map (fun (part_c2 : PT) => part_c2.m.depth))))) 0 rfl (T.PC.c _) (T.PC.n _ _ (by decide)) upd_same (ev_add ev_int (ev_maxD rfl hr.units T.max_n (Ev.rd (EvN.fz (en_lc (r := (pR ad.pc)) (s := iR) (hb := show blkC ["self", "inner", "long", "written", "part"] (defScope s_Part_init) _ [("part", 4)] = true from by decide +kernel) 4 (fun (part_c2 : PT) => true) (fun (part_c2 : PT) => part_c2.m.depth) (ei_list (r := (pR ad.pc)) (Ev.rs (ev_var 1 rfl h_inner_4))) (fun part_c2 vpart_c2 Fc2 Mc2 hm2 sc2 sm2 hpart_c2 Y hY => by obtain ⟨_, _, _, _, _, rfl⟩ := hY; have u3 := Mono.sub sc2 h_inner_4; have u4 := Mono.sub sc2 h_self_inner_3; exact ⟨ets_nil, fun g2 => (show EvF _ _ _ _ _ iR (part_c2.m.depth) from ev_pmeth T.PC (T.me_depth _) (ok_Part_depth T) (hr.mono (by decide)) T.b_Part_depth (ev_var 4 rfl hpart_c2) trivial)⟩) (by /-lc.1-/ exact Nat.lt_of_lt_of_le hpre.1 (by decide)) nd))) ev_int)) w (by simp) (fun F5 M2 H5 v8 s5 e2 w (hv5 : iR F5 v8 ((1 : Int) + (mxD (0 : Int) ((inner.filter (fun (part_c2 : PT) => true)).map (fun (part_c2 : PT) => part_c2.m.depth))))) => ?_)
  have h_inner_5 := Mono.mono s5 h_inner_4
  have h_self_inner_4 := Mono.mono s5 h_self_inner_3
  cases (show v8 = V.int ((1 : Int) + (mxD (0 : Int) ((inner.filter (fun (part_c2 : PT) => true)).map (fun (part_c2 : PT) => part_c2.m.depth)))) from hv5)
  obtain ⟨deep1, e_deep1⟩ : ∃ z, z = ((1 : Int) + (mxD (0 : Int) ((inner.filter (fun (part_c2 : PT) => true)).map (fun (part_c2 : PT) => part_c2.m.depth)))) := ⟨_, rfl⟩
  rw [← e_deep1] at e2
  subst e2
  replace w : Own F5 (upd (upd M sd (.own sx)) sx (.ins (ad.pc kk_) sd [("inner", v4), ("long", .int long), ("written", .int written), ("held", .int held1), ("deep", .int deep1)])) H5 := w.cast (upd_upd.trans rfl)
  refine ss_sfld (Φ := fun F v => (oR iR) F v (mnO ((inner.filter (fun (part_c3 : PT) => (!Option.isNone part_c3.m.low))).map (fun (part_c3 : PT) => (oG part_c3.m.low))))) 0 rfl (T.PC.c _) (T.PC.n _ _ (by decide)) upd_same (ev_minN rfl hr.units T.min_n (Ev.rd (EvN.fz (en_lc (r := (pR ad.pc)) (s := iR) (hb := show blkC ["self", "inner", "long", "written", "part"] (defScope s_Part_init) _ [("part", 4)] = true from by decide +kernel) 4 (fun (part_c3 : PT) => (!Option.isNone part_c3.m.low)) (fun (part_c3 : PT) => (oG part_c3.m.low)) (ei_list (r := (pR ad.pc)) (Ev.rs (ev_var 1 rfl h_inner_5))) (fun part_c3 vpart_c3 Fc3 Mc3 hm3 sc3 sm3 hpart_c3 Y hY => by obtain ⟨_, _, _, _, _, rfl⟩ := hY; have u5 := Mono.sub sc3 h_inner_5; have u6 := Mono.sub sc3 h_self_inner_4; exact ⟨(ets_one (bx_isNot (ev_low T.PC (ev_var 4 rfl hpart_c3)))), fun g3 => (Ev.oget (show EvF _ _ _ _ _ (oR iR) (part_c3.m.low) from ev_pmeth T.PC (T.me_lowest _) (ok_Part_lowest T) (hr.mono (by decide)) T.b_Part_lowest (ev_var 4 rfl hpart_c3) trivial) (oG_not g3))⟩) (by /-lc.2-/ exact Nat.lt_of_lt_of_le hpre.1 (by decide)) nd))) ev_non) w (by simp) (fun F6 M2 H6 v9 s6 e2 w (hv6 : (oR iR) F6 v9 (mnO ((inner.filter (fun (part_c3 : PT) => (!Option.isNone part_c3.m.low))).map (fun (part_c3 : PT) => (oG part_c3.m.low))))) => ?_)
  have h_inner_6 := Mono.mono s6 h_inner_5
  have h_self_inner_5 := Mono.mono s6 h_self_inner_4
  cases (show v9 = oV (mnO ((inner.filter (fun (part_c3 : PT) => (!Option.isNone part_c3.m.low))).map (fun (part_c3 : PT) => (oG part_c3.m.low)))) from oV_of hv6)
  obtain ⟨low1, e_low1⟩ : ∃ z, z = (mnO ((inner.filter (fun (part_c3 : PT) => (!Option.isNone part_c3.m.low))).map (fun (part_c3 : PT) => (oG part_c3.m.low)))) := ⟨_, rfl⟩
  rw [← e_low1] at e2
  subst e2
  replace w : Own F6 (upd (upd M sd (.own sx)) sx (.ins (ad.pc kk_) sd [("inner", v4), ("long", .int long), ("written", .int written), ("held", .int held1), ("deep", .int deep1), ("low", oV low1)])) H6 := w.cast (upd_upd.trans rfl)
  refine ss_sfld (Φ := fun F v => (oR iR) F v (mxO ((inner.filter (fun (part_c4 : PT) => (!Option.isNone part_c4.m.low))).map (fun (part_c4 : PT) => (oG part_c4.m.high))))) 0 rfl (T.PC.c _) (T.PC.n _ _ (by decide)) upd_same (ev_maxN rfl hr.units T.max_n (Ev.rd (EvN.fz (en_lc (r := (pR ad.pc)) (s := iR) (hb := show blkC ["self", "inner", "long", "written", "part"] (defScope s_Part_init) _ [("part", 4)] = true from by decide +kernel) 4 (fun (part_c4 : PT) => (!Option.isNone part_c4.m.low)) (fun (part_c4 : PT) => (oG part_c4.m.high)) (ei_list (r := (pR ad.pc)) (Ev.rs (ev_var 1 rfl h_inner_6))) (fun part_c4 vpart_c4 Fc4 Mc4 hm4 sc4 sm4 hpart_c4 Y hY => by obtain ⟨_, _, _, _, _, rfl⟩ := hY; have u7 := Mono.sub sc4 h_inner_6; have u8 := Mono.sub sc4 h_self_inner_5; exact ⟨(ets_one (bx_isNot (ev_low T.PC (ev_var 4 rfl hpart_c4)))), fun g4 => (Ev.oget (show EvF _ _ _ _ _ (oR iR) (part_c4.m.high) from ev_pmeth T.PC (T.me_highest _) (ok_Part_highest T) (hr.mono (by decide)) T.b_Part_highest (ev_var 4 rfl hpart_c4) trivial) (by /-both.1-/ exact oG_not (by rw [Sound.both (hpre.2 _ (by assumption))]; assumption)))⟩) (by /-lc.3-/ exact Nat.lt_of_lt_of_le hpre.1 (by decide)) nd))) ev_non) w (by simp) (fun F7 M2 H7 v10 s7 e2 w (hv7 : (oR iR) F7 v10 (mxO ((inner.filter (fun (part_c4 : PT) => (!Option.isNone part_c4.m.low))).map (fun (part_c4 : PT) => (oG part_c4.m.high))))) => ?_)
  have h_inner_7 := Mono.mono s7 h_inner_6
  have h_self_inner_6 := Mono.mono s7 h_self_inner_5
  cases (show v10 = oV (mxO ((inner.filter (fun (part_c4 : PT) => (!Option.isNone part_c4.m.low))).map (fun (part_c4 : PT) => (oG part_c4.m.high)))) from oV_of hv7)
  obtain ⟨high1, e_high1⟩ : ∃ z, z = (mxO ((inner.filter (fun (part_c4 : PT) => (!Option.isNone part_c4.m.low))).map (fun (part_c4 : PT) => (oG part_c4.m.high)))) := ⟨_, rfl⟩
  rw [← e_high1] at e2
  subst e2
  replace w : Own F7 (upd (upd M sd (.own sx)) sx (.ins (ad.pc kk_) sd [("inner", v4), ("long", .int long), ("written", .int written), ("held", .int held1), ("deep", .int deep1), ("low", oV low1), ("high", oV high1)])) H7 := w.cast (upd_upd.trans rfl)
  have ex1 : ∀ Fz Hz cz dz, Same F7 Fz → Own Fz (upd (upd M sd (.own sx)) sx (.ins (ad.pc kk_) sd [("inner", v4), ("long", .int long), ("written", .int written), ("held", .int held1), ("deep", .int deep1), ("low", oV low1), ("high", oV high1)])) Hz → ((cz = Value.ref ad.c_NoPart ∧ dz = none) ∧ (¬ ((1 : Int) ≤ long ∧ long ≤ (2000 : Int)))) → (fun c d (_ : L2.St) H => E c d H) cz dz [some (.ref sx), some v0, some (.int long), some (.int written), none] Hz := fun Fz Hz cz dz sz wz hrx => kx _ _ cz dz (((((((s1.trans s2).trans s3).trans s4).trans s5).trans s6).trans s7).trans sz) (wz.lessM ((same_self nx nd_s ne_s).trans (Same.refl _))) (show (cz = Value.ref ad.c_NoPart ∧ dz = none) ∧ (¬ (okM (measB inner long written))) from (by /-ex_look_at.0-/ refine ⟨hrx.1, fun k => hrx.2 ?_⟩; first | exact k.1 | exact k.2.1 | (rw [e_held1, filter_true]; exact k.2.2.1) | (rw [e_deep1, filter_true]; exact k.2.2.2)))
  refine ss_exprP (ev_callX (x := (long, (1 : Int), (2000 : Int), ())) tk (ok_look_at T) (hr.mono (by decide)) T.g_look_at T.F_look_at.kp T.b_look_at (ea_cons (r := iR) (ev_var (r := iR) 2 rfl rfl) (ea_cons (r := iR) ev_int (ea_cons (r := iR) (ev_globI T.c_MOST_CELLS.choose_spec) ea_nil))) (by /-pre_look_at.0-/ trivial) ex1) (fun _ _ h => h.2) w (fun F9 H9 s9 w (hq1 : (1 : Int) ≤ long ∧ long ≤ (2000 : Int)) => ?_)
  have h_inner_8 := Mono.mono s9 h_inner_7
  have h_self_inner_7 := Mono.mono s9 h_self_inner_6
  show WSs _ _ _ [some (.ref sx), some v0, some (.int long), some (.int written), none] _
  have ex2 : ∀ Fz Hz cz dz, Same F9 Fz → Own Fz (upd (upd M sd (.own sx)) sx (.ins (ad.pc kk_) sd [("inner", v4), ("long", .int long), ("written", .int written), ("held", .int held1), ("deep", .int deep1), ("low", oV low1), ("high", oV high1)])) Hz → ((cz = Value.ref ad.c_NoPart ∧ dz = none) ∧ (¬ ((1 : Int) ≤ written ∧ written ≤ (900 : Int)))) → (fun c d (_ : L2.St) H => E c d H) cz dz [some (.ref sx), some v0, some (.int long), some (.int written), none] Hz := fun Fz Hz cz dz sz wz hrx => kx _ _ cz dz ((((((((s1.trans s2).trans s3).trans s4).trans s5).trans s6).trans s7).trans s9).trans sz) (wz.lessM ((same_self nx nd_s ne_s).trans (Same.refl _))) (show (cz = Value.ref ad.c_NoPart ∧ dz = none) ∧ (¬ (okM (measB inner long written))) from (by /-ex_look_at.1-/ refine ⟨hrx.1, fun k => hrx.2 ?_⟩; first | exact k.1 | exact k.2.1 | (rw [e_held1, filter_true]; exact k.2.2.1) | (rw [e_deep1, filter_true]; exact k.2.2.2)))
  refine ss_exprP (ev_callX (x := (written, (1 : Int), (900 : Int), ())) tk (ok_look_at T) (hr.mono (by decide)) T.g_look_at T.F_look_at.kp T.b_look_at (ea_cons (r := iR) (ev_var (r := iR) 3 rfl rfl) (ea_cons (r := iR) ev_int (ea_cons (r := iR) (ev_globI T.c_MOST_LEAVES.choose_spec) ea_nil))) (by /-pre_look_at.1-/ trivial) ex2) (fun _ _ h => h.2) w (fun F11 H11 s11 w (hq2 : (1 : Int) ≤ written ∧ written ≤ (900 : Int)) => ?_)
  have h_inner_9 := Mono.mono s11 h_inner_8
  have h_self_inner_8 := Mono.mono s11 h_self_inner_7
  show WSs _ _ _ [some (.ref sx), some v0, some (.int long), some (.int written), none] _
  have ex3 : ∀ Fz Hz cz dz, Same F11 Fz → Own Fz (upd (upd M sd (.own sx)) sx (.ins (ad.pc kk_) sd [("inner", v4), ("long", .int long), ("written", .int written), ("held", .int held1), ("deep", .int deep1), ("low", oV low1), ("high", oV high1)])) Hz → ((cz = Value.ref ad.c_NoPart ∧ dz = none) ∧ (¬ ((1 : Int) ≤ held1 ∧ held1 ≤ (1500 : Int)))) → (fun c d (_ : L2.St) H => E c d H) cz dz [some (.ref sx), some v0, some (.int long), some (.int written), none] Hz := fun Fz Hz cz dz sz wz hrx => kx _ _ cz dz (((((((((s1.trans s2).trans s3).trans s4).trans s5).trans s6).trans s7).trans s9).trans s11).trans sz) (wz.lessM ((same_self nx nd_s ne_s).trans (Same.refl _))) (show (cz = Value.ref ad.c_NoPart ∧ dz = none) ∧ (¬ (okM (measB inner long written))) from (by /-ex_look_at.2-/ refine ⟨hrx.1, fun k => hrx.2 ?_⟩; first | exact k.1 | exact k.2.1 | (rw [e_held1, filter_true]; exact k.2.2.1) | (rw [e_deep1, filter_true]; exact k.2.2.2)))
  refine ss_exprP (ev_callX (x := (held1, (1 : Int), (1500 : Int), ())) tk (ok_look_at T) (hr.mono (by decide)) T.g_look_at T.F_look_at.kp T.b_look_at (ea_cons (r := iR) (ev_sfld (r := iR) 0 rfl (T.PC.c _) (T.PC.n _ _ (by decide)) upd_same rfl rfl) (ea_cons (r := iR) ev_int (ea_cons (r := iR) (ev_globI T.c_MOST_SIZE.choose_spec) ea_nil))) (by /-pre_look_at.2-/ trivial) ex3) (fun _ _ h => h.2) w (fun F13 H13 s13 w (hq3 : (1 : Int) ≤ held1 ∧ held1 ≤ (1500 : Int)) => ?_)
  have h_inner_10 := Mono.mono s13 h_inner_9
  have h_self_inner_9 := Mono.mono s13 h_self_inner_8
  show WSs _ _ _ [some (.ref sx), some v0, some (.int long), some (.int written), none] _
  have ex4 : ∀ Fz Hz cz dz, Same F13 Fz → Own Fz (upd (upd M sd (.own sx)) sx (.ins (ad.pc kk_) sd [("inner", v4), ("long", .int long), ("written", .int written), ("held", .int held1), ("deep", .int deep1), ("low", oV low1), ("high", oV high1)])) Hz → ((cz = Value.ref ad.c_NoPart ∧ dz = none) ∧ (¬ ((1 : Int) ≤ deep1 ∧ deep1 ≤ (12 : Int)))) → (fun c d (_ : L2.St) H => E c d H) cz dz [some (.ref sx), some v0, some (.int long), some (.int written), none] Hz := fun Fz Hz cz dz sz wz hrx => kx _ _ cz dz ((((((((((s1.trans s2).trans s3).trans s4).trans s5).trans s6).trans s7).trans s9).trans s11).trans s13).trans sz) (wz.lessM ((same_self nx nd_s ne_s).trans (Same.refl _))) (show (cz = Value.ref ad.c_NoPart ∧ dz = none) ∧ (¬ (okM (measB inner long written))) from (by /-ex_look_at.3-/ refine ⟨hrx.1, fun k => hrx.2 ?_⟩; first | exact k.1 | exact k.2.1 | (rw [e_held1, filter_true]; exact k.2.2.1) | (rw [e_deep1, filter_true]; exact k.2.2.2)))
  refine ss_exprP (ev_callX (x := (deep1, (1 : Int), (12 : Int), ())) tk (ok_look_at T) (hr.mono (by decide)) T.g_look_at T.F_look_at.kp T.b_look_at (ea_cons (r := iR) (ev_sfld (r := iR) 0 rfl (T.PC.c _) (T.PC.n _ _ (by decide)) upd_same rfl rfl) (ea_cons (r := iR) ev_int (ea_cons (r := iR) (ev_globI T.c_MOST_DEPTH.choose_spec) ea_nil))) (by /-pre_look_at.3-/ trivial) ex4) (fun _ _ h => h.2) w (fun F15 H15 s15 w (hq4 : (1 : Int) ≤ deep1 ∧ deep1 ≤ (12 : Int)) => ?_)
  have h_inner_11 := Mono.mono s15 h_inner_10
  have h_self_inner_10 := Mono.mono s15 h_self_inner_9
  show WSs _ _ _ [some (.ref sx), some v0, some (.int long), some (.int written), none] _
  refine ss_nil ?_
  refine kk _ _ _ ((((((((((s1.trans s2).trans s3).trans s4).trans s5).trans s6).trans s7).trans s9).trans s11).trans s13).trans s15) w (show PMade ad.pc F15 _ (mkB .row 0 inner long written) ∧ (okM (measB inner long written)) from ⟨?_, (by /-ret-/
      have e1 : (measB inner long written).size = held1 := by rw [e_held1, filter_true]; rfl
      have e2 : (measB inner long written).depth = deep1 := by rw [e_deep1, filter_true]; rfl
      exact ⟨hq1, hq2, by rw [e1]; exact hq3, by rw [e2]; exact hq4⟩)⟩)
  obtain ⟨l_, vs_, e_, hl_, hA_⟩ := h_self_inner_10
  cases e_
  exact ⟨_, _, hl_, hA_, (by /-made-/ subst e_held1 e_deep1 e_low1 e_high1; simp only [filter_true]; rfl)⟩
theorem ok_Tone_init (T : Txt K mg ad) : FnOk P w K mg base (L2.CX P w) 4 ad.a_Tone_init ad.d_Tone_init ["self", "pitch", "cells"] (FSpI (α := Int × Int × Unit) (fun C => C = ad.pc .tone) (ac iR (ac iR an)) (fun x => True) (fun x F fs => PMade ad.pc F fs (toneP x.1 x.2.1) ∧ ((0 ≤ x.1 ∧ x.1 ≤ 127) ∧ (1 ≤ x.2.1 ∧ x.2.1 ≤ 2000))) (fun x F c d => (c = Value.ref ad.c_NoPart ∧ d = none) ∧ (¬ ((0 ≤ x.1 ∧ x.1 ≤ 127) ∧ (1 ≤ x.2.1 ∧ x.2.1 ≤ 2000))))) := by
  have nd : List.Nodup (α := Str) ["self", "pitch", "cells"] := sc_Tone_init.nd
  refine ok_defX T.F_Tone_init sc_Tone_init (fun vs H Q E h => ?_) (fun cdv A outer s H vs Q E hr h tk => ?_)
  · obtain ⟨F, M, C, x, dx, us, a, rfl, ⟨_, _, rfl, _, ⟨_, _, rfl, _, rfl⟩⟩, _⟩ := h; rfl
  obtain ⟨F, M, sC, sx, sd, us_, ⟨pitch, cells, _⟩, rfl, ⟨v0, us0, rfl, hp0, ⟨v1, us1, rfl, hp1, rfl⟩⟩, hpre, rfl, ne_s, nx, nd_s, w, kk, kx⟩ := h
  have h_pitch : iR F v0 pitch := hp0
  cases (show v0 = V.int pitch from h_pitch)
  have h_cells : iR F v1 cells := hp1
  cases (show v1 = V.int cells from h_cells)
  show WSs _ _ _ [some (.ref sx), some (.int pitch), some (.int cells)] _
  have ex1 : ∀ Fz Hz cz dz, Same F Fz → Own Fz (upd (upd M sd (.own sx)) sx (.ins (ad.pc .tone) sd [])) Hz → ((cz = Value.ref ad.c_NoPart ∧ dz = none) ∧ (¬ ((0 : Int) ≤ pitch ∧ pitch ≤ (127 : Int)))) → (fun c d (_ : L2.St) H => E c d H) cz dz [some (.ref sx), some (.int pitch), some (.int cells)] Hz := fun Fz Hz cz dz sz wz hrx => kx _ _ cz dz ((Same.refl _).trans sz) (wz.lessM ((same_self nx nd_s ne_s).trans (Same.refl _))) (show (cz = Value.ref ad.c_NoPart ∧ dz = none) ∧ (¬ ((0 ≤ pitch ∧ pitch ≤ 127) ∧ (1 ≤ cells ∧ cells ≤ 2000))) from (by /-ex_look_at.0-/ first | exact hrx | exact ⟨hrx.1, by have q := hrx.2; first | omega | simp_all⟩))
  refine ss_exprP (ev_callX (x := (pitch, (0 : Int), (127 : Int), ())) tk (ok_look_at T) (hr.mono (by decide)) T.g_look_at T.F_look_at.kp T.b_look_at (ea_cons (r := iR) (ev_var (r := iR) 1 rfl rfl) (ea_cons (r := iR) ev_int (ea_cons (r := iR) (ev_globI T.c_HIGHEST.choose_spec) ea_nil))) (by /-pre_look_at.0-/ trivial) ex1) (fun _ _ h => h.2) w (fun F2 H2 s2 w (hq1 : (0 : Int) ≤ pitch ∧ pitch ≤ (127 : Int)) => ?_)
  show WSs _ _ _ [some (.ref sx), some (.int pitch), some (.int cells)] _
  refine ss_pinit (x := (([] : List PT), cells, (1 : Int), ())) 0 tk T.BF (ok_Part_init T) (hr.mono (by decide)) T.pk_Part T.b_Part_init rfl ⟨_, rfl⟩ ne_s nx nd_s (ea_cons (r := (lR (pR ad.pc))) (EvN.fz (en_lst (r := (pR ad.pc)) ea_nilL)) (ea_cons (r := iR) (ev_var (r := iR) 2 rfl rfl) (ea_cons (r := iR) ev_int ea_nil))) w (by /-pre_Part_init.0-/ exact ⟨by show (0 : Nat) < 1000; decide, fun t h => by cases h⟩) (fun Fz Hz cz dz sz wz (hrx : (cz = Value.ref ad.c_NoPart ∧ dz = none) ∧ (¬ (okM (measB ([] : List PT) cells (1 : Int))))) => kx _ _ cz dz (s2.trans sz) wz (show (cz = Value.ref ad.c_NoPart ∧ dz = none) ∧ (¬ ((0 ≤ pitch ∧ pitch ≤ 127) ∧ (1 ≤ cells ∧ cells ≤ 2000))) from (by /-ex_Part_init.0-/ exact ⟨hrx.1, by have q := hrx.2; rw [okM_nil] at q; omega⟩))) (fun F3 H3 fs_pb1 s3 w ⟨⟨li_pb1, vs_pb1, hl_pb1, hA_pb1, ef_pb1⟩, (hq_pb1 : okM (measB ([] : List PT) cells (1 : Int)))⟩ => ?_)
  subst ef_pb1
  have h_inner1 : lR (pR ad.pc) F3 (.ref li_pb1) ([] : List PT) := ⟨_, _, rfl, hl_pb1, hA_pb1⟩
  replace w : Own F3 (upd (upd M sd (.own sx)) sx (.ins (ad.pc .tone) sd [("inner", .ref li_pb1), ("long", .int cells), ("written", .int (1 : Int)), ("held", .int (measB ([] : List PT) cells (1 : Int)).size), ("deep", .int (measB ([] : List PT) cells (1 : Int)).depth), ("low", oV (measB ([] : List PT) cells (1 : Int)).low), ("high", oV (measB ([] : List PT) cells (1 : Int)).high)])) H3 := w
  show WSs _ _ _ [some (.ref sx), some (.int pitch), some (.int cells)] _
  refine ss_sfld (Φ := fun F v => iR F v pitch) 0 rfl (T.PC.c _) (T.PC.n _ _ (by decide)) upd_same (ev_var (r := iR) 1 rfl rfl) w (by simp) (fun F4 M2 H4 v3 s4 e2 w (hv1 : iR F4 v3 pitch) => ?_)
  have h_self_inner_1 := Mono.mono s4 h_inner1
  cases (show v3 = V.int pitch from hv1)
  subst e2
  replace w : Own F4 (upd (upd M sd (.own sx)) sx (.ins (ad.pc .tone) sd [("inner", .ref li_pb1), ("long", .int cells), ("written", .int (1 : Int)), ("held", .int (measB ([] : List PT) cells (1 : Int)).size), ("deep", .int (measB ([] : List PT) cells (1 : Int)).depth), ("low", oV (measB ([] : List PT) cells (1 : Int)).low), ("high", oV (measB ([] : List PT) cells (1 : Int)).high), ("pitch", .int pitch)])) H4 := w.cast (upd_upd.trans rfl)
  refine ss_sfld (Φ := fun F v => (oR iR) F v (some pitch)) 0 rfl (T.PC.c _) (T.PC.n _ _ (by decide)) upd_same (Ev.someO (r := iR) (ev_var (r := iR) 1 rfl rfl)) w (by simp) (fun F5 M2 H5 v4 s5 e2 w (hv2 : (oR iR) F5 v4 (some pitch)) => ?_)
  have h_self_inner_2 := Mono.mono s5 h_self_inner_1
  cases (show v4 = oV (some pitch) from oV_of hv2)
  obtain ⟨low1, e_low1⟩ : ∃ z, z = (some pitch) := ⟨_, rfl⟩
  rw [← e_low1] at e2
  subst e2
  replace w : Own F5 (upd (upd M sd (.own sx)) sx (.ins (ad.pc .tone) sd [("inner", .ref li_pb1), ("long", .int cells), ("written", .int (1 : Int)), ("held", .int (measB ([] : List PT) cells (1 : Int)).size), ("deep", .int (measB ([] : List PT) cells (1 : Int)).depth), ("low", oV low1), ("high", oV (measB ([] : List PT) cells (1 : Int)).high), ("pitch", .int pitch)])) H5 := w.cast (upd_upd.trans rfl)
  refine ss_sfld (Φ := fun F v => (oR iR) F v (some pitch)) 0 rfl (T.PC.c _) (T.PC.n _ _ (by decide)) upd_same (Ev.someO (r := iR) (ev_var (r := iR) 1 rfl rfl)) w (by simp) (fun F6 M2 H6 v5 s6 e2 w (hv3 : (oR iR) F6 v5 (some pitch)) => ?_)
  have h_self_inner_3 := Mono.mono s6 h_self_inner_2
  cases (show v5 = oV (some pitch) from oV_of hv3)
  obtain ⟨high1, e_high1⟩ : ∃ z, z = (some pitch) := ⟨_, rfl⟩
  rw [← e_high1] at e2
  subst e2
  replace w : Own F6 (upd (upd M sd (.own sx)) sx (.ins (ad.pc .tone) sd [("inner", .ref li_pb1), ("long", .int cells), ("written", .int (1 : Int)), ("held", .int (measB ([] : List PT) cells (1 : Int)).size), ("deep", .int (measB ([] : List PT) cells (1 : Int)).depth), ("low", oV low1), ("high", oV high1), ("pitch", .int pitch)])) H6 := w.cast (upd_upd.trans rfl)
  refine ss_nil ?_
  refine kk _ _ _ ((((s2.trans s3).trans s4).trans s5).trans s6) w (show PMade ad.pc F6 _ (toneP pitch cells) ∧ ((0 ≤ pitch ∧ pitch ≤ 127) ∧ (1 ≤ cells ∧ cells ≤ 2000)) from ⟨?_, (by /-ret-/ rw [okM_nil] at hq_pb1; omega)⟩)
  obtain ⟨l_, vs_, e_, hl_, hA_⟩ := h_self_inner_3
  cases e_
  exact ⟨_, _, hl_, hA_, (by /-made-/ subst e_low1 e_high1; rfl)⟩
theorem ok_Rest_init (T : Txt K mg ad) : FnOk P w K mg base (L2.CX P w) 4 ad.a_Rest_init ad.d_Rest_init ["self", "cells"] (FSpI (α := Int × Unit) (fun C => C = ad.pc .rest) (ac iR an) (fun x => True) (fun x F fs => PMade ad.pc F fs (restP x.1) ∧ (1 ≤ x.1 ∧ x.1 ≤ 2000)) (fun x F c d => (c = Value.ref ad.c_NoPart ∧ d = none) ∧ (¬ (1 ≤ x.1 ∧ x.1 ≤ 2000)))) := by
  have nd : List.Nodup (α := Str) ["self", "cells"] := sc_Rest_init.nd
  refine ok_defX T.F_Rest_init sc_Rest_init (fun vs H Q E h => ?_) (fun cdv A outer s H vs Q E hr h tk => ?_)
  · obtain ⟨F, M, C, x, dx, us, a, rfl, ⟨_, _, rfl, _, rfl⟩, _⟩ := h; rfl
  obtain ⟨F, M, sC, sx, sd, us_, ⟨cells, _⟩, rfl, ⟨v0, us0, rfl, hp0, rfl⟩, hpre, rfl, ne_s, nx, nd_s, w, kk, kx⟩ := h
  have h_cells : iR F v0 cells := hp0
  cases (show v0 = V.int cells from h_cells)
  show WSs _ _ _ [some (.ref sx), some (.int cells)] _
  refine ss_pinit (x := (([] : List PT), cells, (1 : Int), ())) 0 tk T.BF (ok_Part_init T) (hr.mono (by decide)) T.pk_Part T.b_Part_init rfl ⟨_, rfl⟩ ne_s nx nd_s (ea_cons (r := (lR (pR ad.pc))) (EvN.fz (en_lst (r := (pR ad.pc)) ea_nilL)) (ea_cons (r := iR) (ev_var (r := iR) 1 rfl rfl) (ea_cons (r := iR) ev_int ea_nil))) w (by /-pre_Part_init.0-/ exact ⟨by show (0 : Nat) < 1000; decide, fun t h => by cases h⟩) (fun Fz Hz cz dz sz wz (hrx : (cz = Value.ref ad.c_NoPart ∧ dz = none) ∧ (¬ (okM (measB ([] : List PT) cells (1 : Int))))) => kx _ _ cz dz ((Same.refl _).trans sz) wz (show (cz = Value.ref ad.c_NoPart ∧ dz = none) ∧ (¬ (1 ≤ cells ∧ cells ≤ 2000)) from (by /-ex_Part_init.0-/ exact ⟨hrx.1, by have q := hrx.2; rw [okM_nil] at q; omega⟩))) (fun F1 H1 fs_pb1 s1 w ⟨⟨li_pb1, vs_pb1, hl_pb1, hA_pb1, ef_pb1⟩, (hq_pb1 : okM (measB ([] : List PT) cells (1 : Int)))⟩ => ?_)
  subst ef_pb1
  have h_inner1 : lR (pR ad.pc) F1 (.ref li_pb1) ([] : List PT) := ⟨_, _, rfl, hl_pb1, hA_pb1⟩
  replace w : Own F1 (upd (upd M sd (.own sx)) sx (.ins (ad.pc .rest) sd [("inner", .ref li_pb1), ("long", .int cells), ("written", .int (1 : Int)), ("held", .int (measB ([] : List PT) cells (1 : Int)).size), ("deep", .int (measB ([] : List PT) cells (1 : Int)).depth), ("low", oV (measB ([] : List PT) cells (1 : Int)).low), ("high", oV (measB ([] : List PT) cells (1 : Int)).high)])) H1 := w
  show WSs _ _ _ [some (.ref sx), some (.int cells)] _
  refine ss_nil ?_
  refine kk _ _ _ s1 w (show PMade ad.pc F1 _ (restP cells) ∧ (1 ≤ cells ∧ cells ≤ 2000) from ⟨?_, (by /-ret-/ rw [okM_nil] at hq_pb1; omega)⟩)
  obtain ⟨l_, vs_, e_, hl_, hA_⟩ := h_inner1
  cases e_
  exact ⟨_, _, hl_, hA_, (by /-made-/ rfl)⟩
theorem ok_Tone_words (T : Txt K mg ad) : FnOk P w K mg base CX0 1 ad.a_Tone_words ad.d_Tone_words ["self"] (FSpN (α := PT × Unit) (ac (pR ad.pc) an) (fun x => (x.1).k = .tone ∧ Sound (x.1)) sR (fun x y => y = (wordsP x.1))) := by
  have nd : List.Nodup (α := Str) ["self"] := sc_Tone_words.nd
  refine ok_def T.F_Tone_words sc_Tone_words (fun vs H Q E h => ?_) (fun cdv A outer s H vs Q E hr h => ?_)
  · obtain ⟨F, M, x, ⟨_, _, rfl, _, rfl⟩, _⟩ := h; rfl
  obtain ⟨F, M, ⟨self, _⟩, ⟨v0, us0, rfl, hp0, rfl⟩, hpre, w, kk⟩ := h
  have h_self : (pR ad.pc) F v0 self := hp0
  have hpre : (self).k = .tone ∧ Sound (self) := hpre
  show WSs _ _ _ [some v0] _
  refine ss_retN (en_lst (r := sR) (ea_consL (ev_catS (ev_catS (ev_strI T.str_n (ev_pitch T.PC (ev_var 0 rfl h_self) (by /-kind.0-/ exact hpre.1)) (by /-str.0-/ have z := Sound.num hpre.2; have y := Sound.cells hpre.2; exact log_small (by omega))) (ev_str) (by /-cats.0-/ have z := Sound.num hpre.2; have y := Sound.cells hpre.2; have z1 := numT_small (i := self.n) (by omega); have z2 := numT_small (i := self.m.cells) (by omega); have e1 : (".").length = 1 := rfl; have e2 : ("r.").length = 2 := rfl; simp only [str_len_app, strLen_ofString]; omega)) (ev_strI T.str_n (ev_long T.PC (ev_var 0 rfl h_self)) (by /-str.1-/ have z := Sound.num hpre.2; have y := Sound.cells hpre.2; exact log_small (by omega))) (by /-cats.1-/ have z := Sound.num hpre.2; have y := Sound.cells hpre.2; have z1 := numT_small (i := self.n) (by omega); have z2 := numT_small (i := self.m.cells) (by omega); have e1 : (".").length = 1 := rfl; have e2 : ("r.").length = 2 := rfl; simp only [str_len_app, strLen_ofString]; omega)) ea_nilL)) w (fun F1 H1 l1 vs1 s1 w n1 n2 hh hA1 => kk _ _ _ _ _ ((Same.refl _).trans s1) (w.lessM (Same.refl _)) n1 (Same.no (Same.refl _) n2) hh hA1 (show [(((numT self.n) ++ ("." : Str)) ++ (numT self.m.cells))] = wordsP self from (by /-ret.0-/ exact (wordsP_tone hpre.1).symm)))
theorem ok_Rest_words (T : Txt K mg ad) : FnOk P w K mg base CX0 1 ad.a_Rest_words ad.d_Rest_words ["self"] (FSpN (α := PT × Unit) (ac (pR ad.pc) an) (fun x => (x.1).k = .rest ∧ Sound (x.1)) sR (fun x y => y = (wordsP x.1))) := by
  have nd : List.Nodup (α := Str) ["self"] := sc_Rest_words.nd
  refine ok_def T.F_Rest_words sc_Rest_words (fun vs H Q E h => ?_) (fun cdv A outer s H vs Q E hr h => ?_)
  · obtain ⟨F, M, x, ⟨_, _, rfl, _, rfl⟩, _⟩ := h; rfl
  obtain ⟨F, M, ⟨self, _⟩, ⟨v0, us0, rfl, hp0, rfl⟩, hpre, w, kk⟩ := h
  have h_self : (pR ad.pc) F v0 self := hp0
  have hpre : (self).k = .rest ∧ Sound (self) := hpre
  show WSs _ _ _ [some v0] _
  refine ss_retN (en_lst (r := sR) (ea_consL (ev_catS (ev_str) (ev_strI T.str_n (ev_long T.PC (ev_var 0 rfl h_self)) (by /-str.0-/ have z := Sound.num hpre.2; have y := Sound.cells hpre.2; exact log_small (by omega))) (by /-cats.0-/ have z := Sound.num hpre.2; have y := Sound.cells hpre.2; have z1 := numT_small (i := self.n) (by omega); have z2 := numT_small (i := self.m.cells) (by omega); have e1 : (".").length = 1 := rfl; have e2 : ("r.").length = 2 := rfl; simp only [str_len_app, strLen_ofString]; omega)) ea_nilL)) w (fun F1 H1 l1 vs1 s1 w n1 n2 hh hA1 => kk _ _ _ _ _ ((Same.refl _).trans s1) (w.lessM (Same.refl _)) n1 (Same.no (Same.refl _) n2) hh hA1 (show [(("r." : Str) ++ (numT self.m.cells))] = wordsP self from (by /-ret.0-/ exact (wordsP_rest hpre.1).symm)))
theorem ok_whole (T : Txt K mg ad) : FnOk P w K mg base CX0 1 ad.a_whole ad.d_whole ["_law_found"] (FSp (α := Int × Unit) (ac iR an) (fun x => True) (fun x F v => bR F v (true))) := by
  have nd : List.Nodup (α := Str) ["_law_found"] := sc_whole.nd
  refine ok_def T.F_whole sc_whole (fun vs H Q E h => ?_) (fun cdv A outer s H vs Q E hr h => ?_)
  · obtain ⟨F, M, x, ⟨_, _, rfl, _, rfl⟩, _⟩ := h; rfl
  obtain ⟨F, M, ⟨found, _⟩, ⟨v0, us0, rfl, hp0, rfl⟩, hpre, w, kk⟩ := h
  have h_found : iR F v0 found := hp0
  cases (show v0 = V.int found from h_found)
  show WSs _ _ _ [some (.int found)] _
  refine ss_ret (Bx.ev (bx_l (bl_and (bx_isi (S := "int") (S' := "int") (k := true) T.isinstance_n T.int_n (by decide +kernel) (ev_var (r := iR) 0 rfl rfl) (by decide +kernel)) fun g1 => (bl_one_and (bx_not (bx_isi (S := "int") (S' := "bool") (k := false) T.isinstance_n T.bool_n (by decide +kernel) (ev_var (r := iR) 0 rfl rfl) (by decide +kernel))))))) w (fun F1 H1 v1 s1 w (hv1 : bR F1 v1 (true && (!false))) => kk _ _ _ ((Same.refl _).trans s1) (w.lessM (Same.refl _)) ?_)
  show bR F1 v1 (true)
  have hq : (true && (!false)) = (true) := (by /-ret.0-/ rfl)
  rw [← hq]; exact hv1
theorem ok_kinds (T : Txt K mg ad) : FnHp P w K mg base 1 ad.a_kinds ad.d_kinds ["_law_e"] (fun x vs H Q _ => vs = [V.ref x.1] ∧ (Zc (.ref ad.c_NoPart) none x.2 ∧ ∃ vs, x.2.data = .fields vs) ∧ ∃ F M, Own F M H ∧ ∀ F2 H2, Same F F2 → Own F2 M H2 → Q (.bl true) H2) := by
  have nd : List.Nodup (α := Str) ["_law_e", "_law_some"] := sc_kinds.nd
  refine ok_hot T.F_kinds sc_kinds (fun p vs H Q E h => ?_) (fun cdv A outer s H vs Q E p hr h => ?_)
  · obtain ⟨rfl, _⟩ := h; rfl
  obtain ⟨rfl, ⟨hz, hf⟩, F, M, w, kk⟩ := h
  have kk : ∀ F2 H2 v, Same F F2 → Own F2 M H2 → v = V.bl true → Q v H2 := fun F2 H2 v s w e => by subst e; exact kk F2 H2 s w
  show WSs _ _ _ [some (.ref p.1), none] _
  refine ss_set 1 (EvN.fz (en_lst (r := bR) (ea_consL (Bx.ev (bx_isXo 0 T.xc_NoPart (List.mem_cons_self ..) hz hf T.isinstance_n rfl T.k_NoText T.kt_NoPart_NoText)) (ea_consL (Bx.ev (bx_isXo 0 T.xc_NoPart (List.mem_cons_self ..) hz hf T.isinstance_n rfl T.k_Near T.kt_NoPart_Near)) (ea_consL (Bx.ev (bx_isXo 0 T.xc_NoPart (List.mem_cons_self ..) hz hf T.isinstance_n rfl T.k_NoSeam T.kt_NoPart_NoSeam)) (ea_consL (Bx.ev (bx_isXo 0 T.xc_NoPart (List.mem_cons_self ..) hz hf T.isinstance_n rfl T.k_NoBarrel T.kt_NoPart_NoBarrel)) ea_nilL)))))) w (fun F1 H1 v1 s1 w (h_some__1 : (lR bR) F1 v1 ([false, false, false, false])) => ?_) nd
  show WSs _ _ _ [some (.ref p.1), some v1] _
  obtain ⟨some_1, e_some_1⟩ : ∃ z, z = ([false, false, false, false] ++ [false, false, false]) := ⟨_, rfl⟩
  refine ss_set 1 (Ev.eq (EvN.fz (en_cat (Ev.rt (ev_var 1 rfl h_some__1)) (Ev.rt (EvN.fz (en_lst (r := bR) (ea_consL (Bx.ev (bx_isXo 0 T.xc_NoPart (List.mem_cons_self ..) hz hf T.isinstance_n rfl T.k_NoName T.kt_NoPart_NoName)) (ea_consL (Bx.ev (bx_isXo 0 T.xc_NoPart (List.mem_cons_self ..) hz hf T.isinstance_n rfl T.k_NoSense T.kt_NoPart_NoSense)) (ea_consL (Bx.ev (bx_isXo 0 T.xc_NoPart (List.mem_cons_self ..) hz hf T.isinstance_n rfl T.k_NoRow T.kt_NoPart_NoRow)) ea_nilL)))))) (by /-cat.0-/ simp only [List.length_append, List.length_map, List.length_reverse, rng_len, List.length_cons, List.length_nil] at *; first | omega | exact Nat.lt_of_le_of_lt (cutL_le _ _ _) (by omega) | exact Nat.lt_of_le_of_lt (List.length_filter_le _ _) (by omega)))) e_some_1.symm) w (fun F2 H2 v2 s2 w (h_some__2 : (lR bR) F2 v2 some_1) => ?_) nd
  show WSs _ _ _ [some (.ref p.1), some v2] _
  refine ss_ret (Bx.ev (bx_l (bl_and (bx_isXo 0 T.xc_NoPart (List.mem_cons_self ..) hz hf T.isinstance_n rfl T.k_WorksError T.kt_NoPart_WorksError) fun g1 => (bl_and (bx_isXb 0 T.xc_NoPart (List.mem_cons_self ..) hz hf T.isinstance_n rfl T.ValueError_n rfl T.kt_NoPart_ValueError) fun g2 => (bl_one_and (bx_niB ev_bl (Ev.rd (ev_var 1 rfl h_some__2)))))))) w (fun F3 H3 v3 s3 w (hv1 : bR F3 v3 (true && (true && (!decide (true ∈ some_1))))) => kk _ _ _ ((s1.trans s2).trans s3) (w.lessM (Same.refl _)) ?_)
  show bR F3 v3 (true)
  have hq : (true && (true && (!decide (true ∈ some_1)))) = (true) := (by /-ret.0-/ simp_all)
  rw [← hq]; exact hv1
theorem ok_are (T : Txt K mg ad) : FnOk P w K mg base CX0 2 ad.a_are ad.d_are ["_law_part", "_law_due"] (FSp (α := PT × (List (Option Int) × List Str) × Unit) (ac (pR ad.pc) (ac dueR an)) (fun x => (x.2.1.1.length = 6) ∧ ((x.1).k = .tone ∨ (x.1).k = .rest) ∧ Sound (x.1)) (fun x F v => bR F v ((decide ([some x.1.m.cells, some x.1.m.leaves, some x.1.m.size, some x.1.m.depth, x.1.m.low, x.1.m.high] = x.2.1.1) && decide (wordsP x.1 = x.2.1.2))))) := by
  have nd : List.Nodup (α := Str) ["_law_part", "_law_due", "_law_found", "_law_ends", "_law_number_here", "_law_end", "_law_words", "_law_word"] := sc_are.nd
  refine ok_def T.F_are sc_are (fun vs H Q E h => ?_) (fun cdv A outer s H vs Q E hr h => ?_)
  · obtain ⟨F, M, x, ⟨_, _, rfl, _, ⟨_, _, rfl, _, rfl⟩⟩, _⟩ := h; rfl
  obtain ⟨F, M, ⟨part, due, _⟩, ⟨v0, us0, rfl, hp0, ⟨v1, us1, rfl, hp1, rfl⟩⟩, hpre, w, kk⟩ := h
  have h_part : (pR ad.pc) F v0 part := hp0
  have h_due : dueR F v1 due := hp1
  have hpre : (due.1.length = 6) ∧ ((part).k = .tone ∨ (part).k = .rest) ∧ Sound (part) := hpre
  show WSs _ _ _ [some v0, some v1, none, none, none, none, none, none] _
  obtain ⟨found1, e_found1⟩ : ∃ z, z = [part.m.cells, part.m.leaves, part.m.size, part.m.depth] := ⟨_, rfl⟩
  refine ss_set 2 (Ev.eq (EvN.fz (en_lst (r := iR) (ea_consL (show EvF _ _ _ _ _ iR (part.m.cells) from ev_pmeth T.PC (T.me_cells _) (ok_Part_cells T) (hr.mono (by decide)) T.b_Part_cells (ev_var 0 rfl h_part) trivial) (ea_consL (show EvF _ _ _ _ _ iR (part.m.leaves) from ev_pmeth T.PC (T.me_leaves _) (ok_Part_leaves T) (hr.mono (by decide)) T.b_Part_leaves (ev_var 0 rfl h_part) trivial) (ea_consL (show EvF _ _ _ _ _ iR (part.m.size) from ev_pmeth T.PC (T.me_size _) (ok_Part_size T) (hr.mono (by decide)) T.b_Part_size (ev_var 0 rfl h_part) trivial) (ea_consL (show EvF _ _ _ _ _ iR (part.m.depth) from ev_pmeth T.PC (T.me_depth _) (ok_Part_depth T) (hr.mono (by decide)) T.b_Part_depth (ev_var 0 rfl h_part) trivial) ea_nilL)))))) e_found1.symm) w (fun F1 H1 v2 s1 w (h_found_1 : (lR iR) F1 v2 found1) => ?_) nd
  have h_part_1 := Mono.mono s1 h_part
  have h_due_1 := Mono.mono s1 h_due
  show WSs _ _ _ [some v0, some v1, some v2, none, none, none, none, none] _
  refine ss_set 3 (EvN.fz (en_lst (r := (oR iR)) (ea_consL (show EvF _ _ _ _ _ (oR iR) (part.m.low) from ev_pmeth T.PC (T.me_lowest _) (ok_Part_lowest T) (hr.mono (by decide)) T.b_Part_lowest (ev_var 0 rfl h_part_1) trivial) (ea_consL (show EvF _ _ _ _ _ (oR iR) (part.m.high) from ev_pmeth T.PC (T.me_highest _) (ok_Part_highest T) (hr.mono (by decide)) T.b_Part_highest (ev_var 0 rfl h_part_1) trivial) ea_nilL)))) w (fun F2 H2 v3 s2 w (h_ends_1 : (lR (oR iR)) F2 v3 ([part.m.low, part.m.high])) => ?_) nd
  have h_part_2 := Mono.mono s2 h_part_1
  have h_due_2 := Mono.mono s2 h_due_1
  have h_found_2 := Mono.mono s2 h_found_1
  show WSs _ _ _ [some v0, some v1, some v2, some v3, none, none, none, none] _
  obtain ⟨xs1, e_xs1⟩ : ∃ z, z = (found1 ++ ((([part.m.low, part.m.high]).filter (fun (end__c1 : (Option Int)) => (!Option.isNone end__c1))).map (fun (end__c1 : (Option Int)) => (oG end__c1)))) := ⟨_, rfl⟩
  refine ss_for 4 (EvI.eq (ei_list (r := iR) (Ev.rs (EvN.fz (en_cat (Ev.rt (ev_var 2 rfl h_found_2)) (Ev.rt (EvN.fz (en_lc (r := (oR iR)) (s := iR) (hb := show blkC ["_law_part", "_law_due", "_law_found", "_law_ends", "_law_number_here", "_law_end", "_law_words", "_law_word"] (defScope s_are) _ [("_law_end", 5)] = true from by decide +kernel) 5 (fun (end__c1 : (Option Int)) => (!Option.isNone end__c1)) (fun (end__c1 : (Option Int)) => (oG end__c1)) (ei_list (r := (oR iR)) (Ev.rs (ev_var 3 rfl h_ends_1))) (fun end__c1 vend__c1 Fc1 Mc1 hm1 sc1 sm1 hend__c1 Y hY => by obtain ⟨_, _, _, _, _, rfl⟩ := hY; have u1 := Mono.sub sc1 h_part_2; have u2 := Mono.sub sc1 h_due_2; have u3 := Mono.sub sc1 h_found_2; have u4 := Mono.sub sc1 h_ends_1; exact ⟨(ets_one (bx_isNot (ev_var 5 rfl hend__c1))), fun g1 => (ev_var (r := iR) 5 rfl (oR.get hend__c1 (oG_not g1)))⟩) (by /-lc.0-/ simp only [List.length_append, List.length_map, List.length_reverse, rng_len, List.length_cons, List.length_nil] at *; first | omega | exact Nat.lt_of_le_of_lt (cutL_le _ _ _) (by omega) | exact Nat.lt_of_le_of_lt (List.length_filter_le _ _) (by omega)) nd))) (by /-cat.0-/ have h := List.length_filter_le (fun (o : Option Int) => !o.isNone) [part.m.low, part.m.high]; simp only [e_found1, List.length_map, List.length_cons, List.length_nil] at *; omega))))) e_xs1.symm) w (fun i F1 M1 σ1 => ∃ (o_number_here : Option V), σ1 = [some v0, some v1, some v2, some v3, o_number_here, none, none, none] ∧ M = M1 ∧ True) (fun F1 s1 => ?_) ?_ ?_ ?_ PassesOwn.never nd
  · refine ⟨none, rfl, rfl, ?_⟩
    show True
    exact (by /-init0-/ simp)
  · exact fun _ _ _ _ _ _ h => h
  · rintro F3 i0 number_here1 v_number_here1 F4 M1 H3 σ1 s3 hx0 ⟨o_number_here, rfl, rfl, hI0⟩ s4 w h_number_here_1
    replace hI0 : True := hI0
    have h_part_3 := Mono.mono (s3.trans s4) h_part_2
    have h_due_3 := Mono.mono (s3.trans s4) h_due_2
    have h_found_3 := Mono.mono (s3.trans s4) h_found_2
    have h_ends_2 := Mono.mono (s3.trans s4) h_ends_1
    cases (show v_number_here1 = V.int number_here1 from h_number_here_1)
    have hl0 := (List.getElem?_eq_some_iff.mp hx0).1
    show WSs _ _ _ [some v0, some v1, some v2, some v3, some (.int number_here1), none, none, none] _
    refine ss_if (bx_not (bx_val (show EvF _ _ _ _ _ bR (true) from ev_call (x := (number_here1, ())) (ok_whole T) (hr.mono (by decide)) T.g_whole T.F_whole.kp T.b_whole (ea_cons (r := iR) (ev_var (r := iR) 4 rfl rfl) ea_nil) (by /-pre_whole.0-/ trivial)))) w (fun cR0 H4 w => ?_) (fun cR0 H4 w => ?_)
    · have cN0 := cR0; try simp only [Bool.or_eq_true, Bool.or_eq_false_iff, Bool.and_eq_true, Bool.and_eq_false_imp, decide_eq_true_eq, decide_eq_false_iff_not, Bool.not_eq_true', Bool.not_eq_false', Bool.not_true, Bool.not_false, Int.not_lt, Int.not_le] at cN0
      refine ss_ret ev_bl w (fun F5 H5 v4 s5 w (hv1 : bR F5 v4 false) => kk _ _ _ (((s1.trans s2).trans (s3.trans s4)).trans s5) (w.lessM (Same.refl _)) ?_)
      show bR F5 v4 ((decide ([some part.m.cells, some part.m.leaves, some part.m.size, some part.m.depth, part.m.low, part.m.high] = due.1) && decide (wordsP part = due.2)))
      have hq : false = ((decide ([some part.m.cells, some part.m.leaves, some part.m.size, some part.m.depth, part.m.low, part.m.high] = due.1) && decide (wordsP part = due.2))) := (by /-ret.0-/ simp_all)
      rw [← hq]; exact hv1
    · have cN0 := cR0; try simp only [Bool.or_eq_true, Bool.or_eq_false_iff, Bool.and_eq_true, Bool.and_eq_false_imp, decide_eq_true_eq, decide_eq_false_iff_not, Bool.not_eq_true', Bool.not_eq_false', Bool.not_true, Bool.not_false, Int.not_lt, Int.not_le] at cN0
      refine ss_nil ?_
      show WSs _ _ _ [some v0, some v1, some v2, some v3, some (.int number_here1), none, none, none] _
      refine ss_nil ?_
      refine ⟨_, _, s4, w, some (.int number_here1), rfl, rfl, ?_⟩
      show True
      exact (by /-step0.0-/ simp_all)
  · rintro F6 M1 H6 σ1 s6 w ⟨o_number_here, rfl, rfl, hI0⟩
    replace hI0 : True := hI0
    have h_part_4 := Mono.mono s6 h_part_2
    have h_due_4 := Mono.mono s6 h_due_2
    have h_found_4 := Mono.mono s6 h_found_2
    have h_ends_3 := Mono.mono s6 h_ends_1
    show WSs _ _ _ [some v0, some v1, some v2, some v3, o_number_here, none, none, none] _
    refine ss_set 6 (EvN.fz (show EvN _ _ _ _ _ sR (wordsP (part)) from (have hw : ((part).k = .tone ∨ (part).k = .rest) ∧ Sound (part) := (by /-pre_words.0-/ exact hpre.2); (fun ho => ho.elim (fun hk => (en_pmeth T.PC (by rw [hk]; exact T.me_words .tone) (ok_Tone_words T) (hr.mono (by decide)) T.b_Tone_words (ev_var 0 rfl h_part_4) ⟨hk, hw.2⟩).eq (fun _ h => h)) (fun hk => (en_pmeth T.PC (by rw [hk]; exact T.me_words .rest) (ok_Rest_words T) (hr.mono (by decide)) T.b_Rest_words (ev_var 0 rfl h_part_4) ⟨hk, hw.2⟩).eq (fun _ h => h))) hw.1))) w (fun F7 H7 v5 s7 w (h_words_1 : (lR sR) F7 v5 (wordsP part)) => ?_) nd
    have h_part_5 := Mono.mono s7 h_part_4
    have h_due_5 := Mono.mono s7 h_due_4
    have h_found_5 := Mono.mono s7 h_found_4
    have h_ends_4 := Mono.mono s7 h_ends_3
    show WSs _ _ _ [some v0, some v1, some v2, some v3, o_number_here, none, some v5, none] _
    refine ss_if (bx_not (bx_isi (S := "list") (S' := "list") (k := true) T.isinstance_n T.list_n (by decide +kernel) (ev_var 6 rfl h_words_1) (by decide +kernel))) w (fun cR1 H8 w => ?_) (fun cR1 H8 w => ?_)
    · have cN1 := cR1; try simp only [Bool.or_eq_true, Bool.or_eq_false_iff, Bool.and_eq_true, Bool.and_eq_false_imp, decide_eq_true_eq, decide_eq_false_iff_not, Bool.not_eq_true', Bool.not_eq_false', Bool.not_true, Bool.not_false, Int.not_lt, Int.not_le] at cN1
      refine ss_ret ev_bl w (fun F8 H9 v6 s8 w (hv2 : bR F8 v6 false) => kk _ _ _ ((((s1.trans s2).trans s6).trans s7).trans s8) (w.lessM (Same.refl _)) ?_)
      show bR F8 v6 ((decide ([some part.m.cells, some part.m.leaves, some part.m.size, some part.m.depth, part.m.low, part.m.high] = due.1) && decide (wordsP part = due.2)))
      have hq : false = ((decide ([some part.m.cells, some part.m.leaves, some part.m.size, some part.m.depth, part.m.low, part.m.high] = due.1) && decide (wordsP part = due.2))) := (by /-ret.1-/ simp_all)
      rw [← hq]; exact hv2
    · have cN1 := cR1; try simp only [Bool.or_eq_true, Bool.or_eq_false_iff, Bool.and_eq_true, Bool.and_eq_false_imp, decide_eq_true_eq, decide_eq_false_iff_not, Bool.not_eq_true', Bool.not_eq_false', Bool.not_true, Bool.not_false, Int.not_lt, Int.not_le] at cN1
      refine ss_nil ?_
      show WSs _ _ _ [some v0, some v1, some v2, some v3, o_number_here, none, some v5, none] _
      refine ss_for 7 (ei_list (r := sR) (Ev.rs (ev_var 6 rfl h_words_1))) w (fun i F1 M1 σ1 => ∃ (o_word : Option V), σ1 = [some v0, some v1, some v2, some v3, o_number_here, none, some v5, o_word] ∧ M = M1 ∧ True) (fun F1 s1 => ?_) ?_ ?_ ?_ PassesOwn.never nd
      · refine ⟨none, rfl, rfl, ?_⟩
        show True
        exact (by /-init1-/ simp)
      · exact fun _ _ _ _ _ _ h => h
      · rintro F9 i1 word1 v_word1 F10 M1 H10 σ1 s9 hx1 ⟨o_word, rfl, rfl, hI1⟩ s10 w h_word_1
        replace hI1 : True := hI1
        have h_part_6 := Mono.mono (s9.trans s10) h_part_5
        have h_due_6 := Mono.mono (s9.trans s10) h_due_5
        have h_found_6 := Mono.mono (s9.trans s10) h_found_5
        have h_ends_5 := Mono.mono (s9.trans s10) h_ends_4
        have h_words_2 := Mono.mono (s9.trans s10) h_words_1
        obtain ⟨rfl, h_word_1'⟩ := h_word_1
        have hl1 := (List.getElem?_eq_some_iff.mp hx1).1
        show WSs _ _ _ [some v0, some v1, some v2, some v3, o_number_here, none, some v5, some (.str word1)] _
        refine ss_if (bx_not (bx_isi (S := "str") (S' := "str") (k := true) T.isinstance_n T.str_n (by decide +kernel) (ev_var (r := sR) 7 rfl ⟨rfl, h_word_1'⟩) (by decide +kernel))) w (fun cR2 H11 w => ?_) (fun cR2 H11 w => ?_)
        · have cN2 := cR2; try simp only [Bool.or_eq_true, Bool.or_eq_false_iff, Bool.and_eq_true, Bool.and_eq_false_imp, decide_eq_true_eq, decide_eq_false_iff_not, Bool.not_eq_true', Bool.not_eq_false', Bool.not_true, Bool.not_false, Int.not_lt, Int.not_le] at cN2
          refine ss_ret ev_bl w (fun F11 H12 v7 s11 w (hv3 : bR F11 v7 false) => kk _ _ _ (((((s1.trans s2).trans s6).trans s7).trans (s9.trans s10)).trans s11) (w.lessM (Same.refl _)) ?_)
          show bR F11 v7 ((decide ([some part.m.cells, some part.m.leaves, some part.m.size, some part.m.depth, part.m.low, part.m.high] = due.1) && decide (wordsP part = due.2)))
          have hq : false = ((decide ([some part.m.cells, some part.m.leaves, some part.m.size, some part.m.depth, part.m.low, part.m.high] = due.1) && decide (wordsP part = due.2))) := (by /-ret.2-/ simp_all)
          rw [← hq]; exact hv3
        · have cN2 := cR2; try simp only [Bool.or_eq_true, Bool.or_eq_false_iff, Bool.and_eq_true, Bool.and_eq_false_imp, decide_eq_true_eq, decide_eq_false_iff_not, Bool.not_eq_true', Bool.not_eq_false', Bool.not_true, Bool.not_false, Int.not_lt, Int.not_le] at cN2
          refine ss_nil ?_
          show WSs _ _ _ [some v0, some v1, some v2, some v3, o_number_here, none, some v5, some (.str word1)] _
          refine ss_nil ?_
          refine ⟨_, _, s10, w, some (.str word1), rfl, rfl, ?_⟩
          show True
          exact (by /-step1.0-/ simp_all)
      · rintro F12 M1 H13 σ1 s12 w ⟨o_word, rfl, rfl, hI1⟩
        replace hI1 : True := hI1
        have h_part_7 := Mono.mono s12 h_part_5
        have h_due_7 := Mono.mono s12 h_due_5
        have h_found_7 := Mono.mono s12 h_found_5
        have h_ends_6 := Mono.mono s12 h_ends_4
        have h_words_3 := Mono.mono s12 h_words_1
        show WSs _ _ _ [some v0, some v1, some v2, some v3, o_number_here, none, some v5, o_word] _
        refine ss_ret (Bx.ev (bx_l (bl_and (bx_eqT hr.units (Ev.rt (EvN.fz (en_cat (Ev.rt (Ev.lsome (ev_var 2 rfl h_found_7))) (Ev.rt (ev_var 3 rfl h_ends_6)) (by /-cat.1-/ have h := List.length_filter_le (fun (o : Option Int) => !o.isNone) [part.m.low, part.m.high]; simp only [e_found1, List.length_map, List.length_cons, List.length_nil] at *; omega)))) (Ev.rt (EvN.fz (en_due6 (ev_var 1 rfl h_due_7) (by /-due6.0-/ exact hpre.1))))) fun g2 => (bl_one_and (bx_eqT hr.units (Ev.rt (ev_var 6 rfl h_words_3)) (Ev.rt (ev_dueW (ev_var 1 rfl h_due_7) (by /-dueW.0-/ exact hpre.1)))))))) w (fun F13 H14 v8 s13 w (hv4 : bR F13 v8 ((decide (((found1.map some) ++ [part.m.low, part.m.high]) = due.1)) && (decide ((wordsP part) = due.2)))) => kk _ _ _ (((((s1.trans s2).trans s6).trans s7).trans s12).trans s13) (w.lessM (Same.refl _)) ?_)
        show bR F13 v8 ((decide ([some part.m.cells, some part.m.leaves, some part.m.size, some part.m.depth, part.m.low, part.m.high] = due.1) && decide (wordsP part = due.2)))
        have hq : ((decide (((found1.map some) ++ [part.m.low, part.m.high]) = due.1)) && (decide ((wordsP part) = due.2))) = ((decide ([some part.m.cells, some part.m.leaves, some part.m.size, some part.m.depth, part.m.low, part.m.high] = due.1) && decide (wordsP part = due.2))) := (by /-ret.3-/ simp_all)
        rw [← hq]; exact hv4
theorem ok_number (T : Txt K mg ad) : FnOk P w K mg base CX0 1 ad.a_number ad.d_number ["_law_cell", "_law_least", "_law_greatest"] (FSp (α := Int × Int × Int × Unit) (ac iR (ac iR (ac iR an))) (fun x => x.2.1 ≤ x.2.2.1) (fun x F v => ∃ y, iR F v y ∧ (x.2.1 ≤ y ∧ y ≤ x.2.2.1))) := by
  have nd : List.Nodup (α := Str) ["_law_cell", "_law_least", "_law_greatest", "_law_way"] := sc_number.nd
  refine ok_def T.F_number sc_number (fun vs H Q E h => ?_) (fun cdv A outer s H vs Q E hr h => ?_)
  · obtain ⟨F, M, x, ⟨_, _, rfl, _, ⟨_, _, rfl, _, ⟨_, _, rfl, _, rfl⟩⟩⟩, _⟩ := h; rfl
  obtain ⟨F, M, ⟨cell, least, greatest, _⟩, ⟨v0, us0, rfl, hp0, ⟨v1, us1, rfl, hp1, ⟨v2, us2, rfl, hp2, rfl⟩⟩⟩, hpre, w, kk⟩ := h
  have h_cell : iR F v0 cell := hp0
  cases (show v0 = V.int cell from h_cell)
  have h_least : iR F v1 least := hp1
  cases (show v1 = V.int least from h_least)
  have h_greatest : iR F v2 greatest := hp2
  cases (show v2 = V.int greatest from h_greatest)
  have hpre : least ≤ greatest := hpre
  show WSs _ _ _ [some (.int cell), some (.int least), some (.int greatest), none] _
  obtain ⟨way1, e_way1⟩ : ∃ z, z = (cell % (6 : Int)) := ⟨_, rfl⟩
  refine ss_setI 3 (Ev.eq (ev_mod (ev_var (r := iR) 0 rfl rfl) ev_int) e_way1.symm) w (fun H1 w => ?_) nd
  show WSs _ _ _ [some (.int cell), some (.int least), some (.int greatest), some (.int way1)] _
  refine ss_if (bx_eqI (ev_var (r := iR) 3 rfl rfl) ev_int) w (fun cR0 H2 w => ?_) (fun cR0 H2 w => ?_)
  · have cN0 := cR0; try simp only [Bool.or_eq_true, Bool.or_eq_false_iff, Bool.and_eq_true, Bool.and_eq_false_imp, decide_eq_true_eq, decide_eq_false_iff_not, Bool.not_eq_true', Bool.not_eq_false', Bool.not_true, Bool.not_false, Int.not_lt, Int.not_le] at cN0
    refine ss_ret (ev_var (r := iR) 1 rfl rfl) w (fun F1 H3 v3 s1 w (hv1 : iR F1 v3 least) => kk _ _ _ ((Same.refl _).trans s1) (w.lessM (Same.refl _)) ?_)
    exact ⟨least, hv1, (show least ≤ least ∧ least ≤ greatest from (by /-ret.0-/ omega))⟩
  · have cN0 := cR0; try simp only [Bool.or_eq_true, Bool.or_eq_false_iff, Bool.and_eq_true, Bool.and_eq_false_imp, decide_eq_true_eq, decide_eq_false_iff_not, Bool.not_eq_true', Bool.not_eq_false', Bool.not_true, Bool.not_false, Int.not_lt, Int.not_le] at cN0
    refine ss_nil ?_
    show WSs _ _ _ [some (.int cell), some (.int least), some (.int greatest), some (.int way1)] _
    refine ss_if (bx_eqI (ev_var (r := iR) 3 rfl rfl) ev_int) w (fun cR1 H4 w => ?_) (fun cR1 H4 w => ?_)
    · have cN1 := cR1; try simp only [Bool.or_eq_true, Bool.or_eq_false_iff, Bool.and_eq_true, Bool.and_eq_false_imp, decide_eq_true_eq, decide_eq_false_iff_not, Bool.not_eq_true', Bool.not_eq_false', Bool.not_true, Bool.not_false, Int.not_lt, Int.not_le] at cN1
      refine ss_ret (ev_var (r := iR) 2 rfl rfl) w (fun F2 H5 v4 s2 w (hv2 : iR F2 v4 greatest) => kk _ _ _ ((Same.refl _).trans s2) (w.lessM (Same.refl _)) ?_)
      exact ⟨greatest, hv2, (show least ≤ greatest ∧ greatest ≤ greatest from (by /-ret.1-/ omega))⟩
    · have cN1 := cR1; try simp only [Bool.or_eq_true, Bool.or_eq_false_iff, Bool.and_eq_true, Bool.and_eq_false_imp, decide_eq_true_eq, decide_eq_false_iff_not, Bool.not_eq_true', Bool.not_eq_false', Bool.not_true, Bool.not_false, Int.not_lt, Int.not_le] at cN1
      refine ss_nil ?_
      show WSs _ _ _ [some (.int cell), some (.int least), some (.int greatest), some (.int way1)] _
      refine ss_ret (ev_add (ev_var (r := iR) 1 rfl rfl) (ev_mod (ev_div (ev_var (r := iR) 0 rfl rfl) ev_int) (ev_add (ev_sub (ev_var (r := iR) 2 rfl rfl) (ev_var (r := iR) 1 rfl rfl)) ev_int) (by /-mod.0-/ omega))) w (fun F3 H6 v5 s3 w (hv3 : iR F3 v5 (least + ((cell / (6 : Int)) % ((greatest - least) + (1 : Int))))) => kk _ _ _ ((Same.refl _).trans s3) (w.lessM (Same.refl _)) ?_)
      exact ⟨(least + ((cell / (6 : Int)) % ((greatest - least) + (1 : Int)))), hv3, (show least ≤ (least + ((cell / (6 : Int)) % ((greatest - least) + (1 : Int)))) ∧ (least + ((cell / (6 : Int)) % ((greatest - least) + (1 : Int)))) ≤ greatest from (by /-ret.2-/ have z := Int.emod_nonneg (cell / 6) (show greatest - least + 1 ≠ 0 by omega); have y := Int.emod_lt_of_pos (cell / 6) (show 0 < greatest - least + 1 by omega); omega))⟩
theorem ok_beyond (T : Txt K mg ad) : FnOk P w K mg base CX0 1 ad.a_beyond ad.d_beyond ["_law_cell", "_law_least", "_law_greatest"] (FSp (α := Int × Int × Int × Unit) (ac iR (ac iR (ac iR an))) (fun x => x.2.1 ≤ x.2.2.1) (fun x F v => iR F v (beyondF x.1 x.2.1 x.2.2.1))) := by
  have nd : List.Nodup (α := Str) ["_law_cell", "_law_least", "_law_greatest", "_law_far"] := sc_beyond.nd
  refine ok_def T.F_beyond sc_beyond (fun vs H Q E h => ?_) (fun cdv A outer s H vs Q E hr h => ?_)
  · obtain ⟨F, M, x, ⟨_, _, rfl, _, ⟨_, _, rfl, _, ⟨_, _, rfl, _, rfl⟩⟩⟩, _⟩ := h; rfl
  obtain ⟨F, M, ⟨cell, least, greatest, _⟩, ⟨v0, us0, rfl, hp0, ⟨v1, us1, rfl, hp1, ⟨v2, us2, rfl, hp2, rfl⟩⟩⟩, hpre, w, kk⟩ := h
  have h_cell : iR F v0 cell := hp0
  cases (show v0 = V.int cell from h_cell)
  have h_least : iR F v1 least := hp1
  cases (show v1 = V.int least from h_least)
  have h_greatest : iR F v2 greatest := hp2
  cases (show v2 = V.int greatest from h_greatest)
  have hpre : least ≤ greatest := hpre
  show WSs _ _ _ [some (.int cell), some (.int least), some (.int greatest), none] _
  obtain ⟨far1, e_far1⟩ : ∃ z, z = ((cell / (4 : Int)) % ((10 : Int) ^ ((18 : Int)).toNat)) := ⟨_, rfl⟩
  refine ss_setI 3 (Ev.eq (ev_mod (ev_div (ev_var (r := iR) 0 rfl rfl) ev_int) (ev_pow ev_int ev_int) (by /-modb.0-/ decide)) e_far1.symm) w (fun H1 w => ?_) nd
  show WSs _ _ _ [some (.int cell), some (.int least), some (.int greatest), some (.int far1)] _
  refine ss_ret (ev_ix (Ev.rd (EvN.fz (en_lst (r := iR) (ea_consL (ev_sub (ev_var (r := iR) 1 rfl rfl) ev_int) (ea_consL (ev_add (ev_var (r := iR) 2 rfl rfl) ev_int) (ea_consL (ev_sub (ev_sub (ev_var (r := iR) 1 rfl rfl) ev_int) (ev_var (r := iR) 3 rfl rfl)) (ea_consL (ev_add (ev_add (ev_var (r := iR) 2 rfl rfl) ev_int) (ev_var (r := iR) 3 rfl rfl)) ea_nilL))))))) (ev_mod (ev_var (r := iR) 0 rfl rfl) ev_int) (by /-ix.0-/ first | (constructor <;> omega) | (constructor <;> (simp <;> omega)))) w (fun F1 H2 v3 s1 w (hv1 : iR F1 v3 (gI ([(least - (1 : Int)), (greatest + (1 : Int)), ((least - (1 : Int)) - far1), ((greatest + (1 : Int)) + far1)]) (cell % (4 : Int)))) => kk _ _ _ ((Same.refl _).trans s1) (w.lessM (Same.refl _)) ?_)
  show iR F1 v3 (beyondF cell least greatest)
  have hq : (gI ([(least - (1 : Int)), (greatest + (1 : Int)), ((least - (1 : Int)) - far1), ((greatest + (1 : Int)) + far1)]) (cell % (4 : Int))) = (beyondF cell least greatest) := (by /-ret.0-/ subst e_far1; rfl)
  rw [← hq]; exact hv1
theorem ok_refused (T : Txt K mg ad) : FnOk P w K mg base CX0 6 ad.a_refused ad.d_refused ["_law_pitch", "_law_cells"] (FSp (α := (Option Int) × Int × Unit) (ac (oR iR) (ac iR an)) (fun x => ¬ (1 ≤ x.2.1 ∧ x.2.1 ≤ 2000) ∨ ∃ p, x.1 = some p ∧ ¬ (0 ≤ p ∧ p ≤ 127)) (fun x F v => bR F v (true))) := by
  have nd : List.Nodup (α := Str) ["_law_pitch", "_law_cells", "_law_refused_here", "_law_e"] := sc_refused.nd
  refine ok_def T.F_refused sc_refused (fun vs H Q E h => ?_) (fun cdv A outer s H vs Q E hr h => ?_)
  · obtain ⟨F, M, x, ⟨_, _, rfl, _, ⟨_, _, rfl, _, rfl⟩⟩, _⟩ := h; rfl
  obtain ⟨F, M, ⟨pitch, cells, _⟩, ⟨v0, us0, rfl, hp0, ⟨v1, us1, rfl, hp1, rfl⟩⟩, hpre, w, kk⟩ := h
  have h_pitch : (oR iR) F v0 pitch := hp0
  have h_cells : iR F v1 cells := hp1
  cases (show v1 = V.int cells from h_cells)
  have hpre : ¬ (1 ≤ cells ∧ cells ≤ 2000) ∨ ∃ p, pitch = some p ∧ ¬ (0 ≤ p ∧ p ≤ 127) := hpre
  show WSs _ _ _ [some v0, some (.int cells), none, none] _
  refine ss_setB 2 ev_bl w (fun H1 w => ?_) nd
  show WSs _ _ _ [some v0, some (.int cells), some (.bl false), none] _
  refine ss_tryA 3 nd rfl rfl ⟨rfl, by decide, .inl T.k_NoPart⟩ takes0 (fun W_y1 pn_y1 xe_y1 tk_y1 po_y1 hW_y1 => ?_)
  refine ss_if (bx_isN (ev_var 0 rfl h_pitch)) w (fun cR0 H2 w => ?_) (fun cR0 H2 w => ?_)
  · have cN0 := cR0; try simp only [Bool.or_eq_true, Bool.or_eq_false_iff, Bool.and_eq_true, Bool.and_eq_false_imp, decide_eq_true_eq, decide_eq_false_iff_not, Bool.not_eq_true', Bool.not_eq_false', Bool.not_true, Bool.not_false, Int.not_lt, Int.not_le] at cN0
    have ex1 : ∀ Fz Hz cz dz, Same F Fz → Own Fz M Hz → ((cz = Value.ref ad.c_NoPart ∧ dz = none) ∧ (¬ (1 ≤ cells ∧ cells ≤ 2000))) → W_y1 cz dz [some v0, some (.int cells), some (.bl false), none] Hz := by
      intro F1 H3 cz dz s1 w hrx
      refine hW_y1 _ _ _ _ ⟨true, by rw [hrx.1.1]; exact T.x_NoPart_NoPart, fun _ a oe pn na hz hv => ?_, fun z => Bool.noConfusion z⟩
      have h_pitch_1 := Mono.mono s1 h_pitch
      have hzn : Zc (Value.ref ad.c_NoPart) none oe := by have q := hz; rw [hrx.1.1, hrx.1.2] at q; exact q
      show WSs _ _ _ [some v0, some (.int cells), some (.bl false), some (.ref a)] _
      refine ss_setB 2 (ev_hot (y := true) 3 (ok_kinds T) (roomH_mark hr (by decide)) (List.mem_cons_self ..) T.g_kinds T.F_kinds.kp T.b_kinds ⟨hzn, hv⟩ rfl) w (fun H4 w => ?_) nd
      show WSs _ _ _ [some v0, some (.int cells), some (.bl true), some (.ref a)] _
      refine ss_nil ?_
      show WSs _ _ _ [some v0, some (.int cells), some (.bl true), none] _
      refine ss_ret (ev_var (r := bR) 2 rfl rfl) w (fun F2 H5 v2 s2 w (hv1 : bR F2 v2 true) => kk _ _ _ (s1.trans s2) (w.lessM (Same.refl _)) ?_)
      show bR F2 v2 (true)
      have hq : true = (true) := (by /-ret.0-/ first | (simp_all; done) | (exfalso; rcases hpre with h | ⟨p, hp, h⟩ <;> first | exact h hq1.2 | exact h hq2.2.2 | (cases (eo_pitch1.symm.trans hp); exact h hq2.2.1) | (rw [hp] at cR0; cases cR0)))
      rw [← hq]; exact hv1
    refine ss_exprP (P := ∃ y, y = (restP cells) ∧ (1 ≤ cells ∧ cells ≤ 2000)) (ev_make (r := fun F v (_ : Unit) => ∃ y, pR ad.pc F v y ∧ (y = (restP cells) ∧ (1 ≤ cells ∧ cells ≤ 2000))) (y := ()) (x := (cells, ())) tk_y1 T.mk_Rest (ok_Rest_init T) (hr.mono (by decide)) T.pk_Rest T.b_Rest_init rfl (ea_cons (r := iR) (ev_var (r := iR) 1 rfl rfl) ea_nil) (by /-pre_Rest_init.0-/ trivial) ex1 (fun F2 q dx fs hq ⟨F0, s0, hm, hb⟩ => ⟨_, made_pR (pc := ad.pc) (t := (restP cells)) hq s0 hm, rfl, hb⟩)) (fun _ _ ⟨y, _, h⟩ => ⟨y, h⟩) w (fun F3 H6 s3 w ⟨_, hq1⟩ => ?_)
    have h_pitch_2 := Mono.mono s3 h_pitch
    show WSs _ _ _ [some v0, some (.int cells), some (.bl false), none] _
    refine ss_nil ?_
    show WSs _ _ _ [some v0, some (.int cells), some (.bl false), none] _
    refine ss_nil ?_
    show WSs _ _ _ [some v0, some (.int cells), some (.bl false), none] _
    refine ss_ret (ev_var (r := bR) 2 rfl rfl) w (fun F4 H7 v3 s4 w (hv2 : bR F4 v3 false) => kk _ _ _ (s3.trans s4) (w.lessM (Same.refl _)) ?_)
    show bR F4 v3 (true)
    have hq : false = (true) := (by /-ret.0-/ first | (simp_all; done) | (exfalso; rcases hpre with h | ⟨p, hp, h⟩ <;> first | exact h hq1.2 | exact h hq2.2.2 | (cases (eo_pitch1.symm.trans hp); exact h hq2.2.1) | (rw [hp] at cR0; cases cR0)))
    rw [← hq]; exact hv2
  · have cN0 := cR0; try simp only [Bool.or_eq_true, Bool.or_eq_false_iff, Bool.and_eq_true, Bool.and_eq_false_imp, decide_eq_true_eq, decide_eq_false_iff_not, Bool.not_eq_true', Bool.not_eq_false', Bool.not_true, Bool.not_false, Int.not_lt, Int.not_le] at cN0
    obtain ⟨pitch1, eo_pitch1⟩ : ∃ y, pitch = some y := by cases hz : pitch with | none => simp [hz] at cR0 | some y => exact ⟨y, rfl⟩
    try simp only [eo_pitch1, oG_some, Option.isNone_some, Bool.false_eq_true, false_or, true_and, not_false_eq_true, and_true, or_false] at cN0
    have h_pitch_3 : iR F v0 pitch1 := oR.get h_pitch eo_pitch1
    cases (show v0 = V.int pitch1 from h_pitch_3)
    have ex2 : ∀ Fz Hz cz dz, Same F Fz → Own Fz M Hz → ((cz = Value.ref ad.c_NoPart ∧ dz = none) ∧ (¬ ((0 ≤ pitch1 ∧ pitch1 ≤ 127) ∧ (1 ≤ cells ∧ cells ≤ 2000)))) → W_y1 cz dz [some (.int pitch1), some (.int cells), some (.bl false), none] Hz := by
      intro F5 H8 cz dz s5 w hrx
      refine hW_y1 _ _ _ _ ⟨true, by rw [hrx.1.1]; exact T.x_NoPart_NoPart, fun _ a oe pn na hz hv => ?_, fun z => Bool.noConfusion z⟩
      have hzn : Zc (Value.ref ad.c_NoPart) none oe := by have q := hz; rw [hrx.1.1, hrx.1.2] at q; exact q
      show WSs _ _ _ [some (.int pitch1), some (.int cells), some (.bl false), some (.ref a)] _
      refine ss_setB 2 (ev_hot (y := true) 3 (ok_kinds T) (roomH_mark hr (by decide)) (List.mem_cons_self ..) T.g_kinds T.F_kinds.kp T.b_kinds ⟨hzn, hv⟩ rfl) w (fun H9 w => ?_) nd
      show WSs _ _ _ [some (.int pitch1), some (.int cells), some (.bl true), some (.ref a)] _
      refine ss_nil ?_
      show WSs _ _ _ [some (.int pitch1), some (.int cells), some (.bl true), none] _
      refine ss_ret (ev_var (r := bR) 2 rfl rfl) w (fun F6 H10 v4 s6 w (hv3 : bR F6 v4 true) => kk _ _ _ (s5.trans s6) (w.lessM (Same.refl _)) ?_)
      show bR F6 v4 (true)
      have hq : true = (true) := (by /-ret.0-/ first | (simp_all; done) | (exfalso; rcases hpre with h | ⟨p, hp, h⟩ <;> first | exact h hq1.2 | exact h hq2.2.2 | (cases (eo_pitch1.symm.trans hp); exact h hq2.2.1) | (rw [hp] at cR0; cases cR0)))
      rw [← hq]; exact hv3
    refine ss_exprP (P := ∃ y, y = (toneP pitch1 cells) ∧ ((0 ≤ pitch1 ∧ pitch1 ≤ 127) ∧ (1 ≤ cells ∧ cells ≤ 2000))) (ev_make (r := fun F v (_ : Unit) => ∃ y, pR ad.pc F v y ∧ (y = (toneP pitch1 cells) ∧ ((0 ≤ pitch1 ∧ pitch1 ≤ 127) ∧ (1 ≤ cells ∧ cells ≤ 2000)))) (y := ()) (x := (pitch1, cells, ())) tk_y1 T.mk_Tone (ok_Tone_init T) (hr.mono (by decide)) T.pk_Tone T.b_Tone_init rfl (ea_cons (r := iR) (ev_var (r := iR) 0 rfl rfl) (ea_cons (r := iR) (ev_var (r := iR) 1 rfl rfl) ea_nil)) (by /-pre_Tone_init.0-/ trivial) ex2 (fun F2 q dx fs hq ⟨F0, s0, hm, hb⟩ => ⟨_, made_pR (pc := ad.pc) (t := (toneP pitch1 cells)) hq s0 hm, rfl, hb⟩)) (fun _ _ ⟨y, _, h⟩ => ⟨y, h⟩) w (fun F7 H11 s7 w ⟨_, hq2⟩ => ?_)
    show WSs _ _ _ [some (.int pitch1), some (.int cells), some (.bl false), none] _
    refine ss_nil ?_
    show WSs _ _ _ [some (.int pitch1), some (.int cells), some (.bl false), none] _
    refine ss_nil ?_
    show WSs _ _ _ [some (.int pitch1), some (.int cells), some (.bl false), none] _
    refine ss_ret (ev_var (r := bR) 2 rfl rfl) w (fun F8 H12 v5 s8 w (hv4 : bR F8 v5 false) => kk _ _ _ (s7.trans s8) (w.lessM (Same.refl _)) ?_)
    show bR F8 v5 (true)
    have hq : false = (true) := (by /-ret.0-/ first | (simp_all; done) | (exfalso; rcases hpre with h | ⟨p, hp, h⟩ <;> first | exact h hq1.2 | exact h hq2.2.2 | (cases (eo_pitch1.symm.trans hp); exact h hq2.2.1) | (rw [hp] at cR0; cases cR0)))
    rw [← hq]; exact hv4
theorem ok_law (T : Txt K mg ad) : FnOk P w K mg base CX0 7 ad.a_law ad.d_law ["_law_script"] (FSp (α := (List Int) × Unit) (ac (rsR K iR) an) (fun x => (x.1).length ≤ 63) (fun _ _ v => v = V.bl true)) := by
  have nd : List.Nodup (α := Str) ["_law_script", "_law_cell", "_law_number_here", "_law_pitch", "_law_cells", "_law_due", "_law_part", "_law_k"] := sc_law.nd
  refine ok_def T.F_law sc_law (fun vs H Q E h => ?_) (fun cdv A outer s H vs Q E hr h => ?_)
  · obtain ⟨F, M, x, ⟨_, _, rfl, _, rfl⟩, _⟩ := h; rfl
  obtain ⟨F, M, ⟨script, _⟩, ⟨v0, us0, rfl, hp0, rfl⟩, hpre, w, kk⟩ := h
  have h_script : (rsR K iR) F v0 script := hp0
  have hpre : (script).length ≤ 63 := hpre
  show WSs _ _ _ [some v0, none, none, none, none, none, none, none] _
  obtain ⟨xs1, e_xs1⟩ : ∃ z, z = (cutL script none (some (84 : Int))) := ⟨_, rfl⟩
  refine ss_for 1 (EvI.eq (ei_list (r := iR) (Ev.rs (EvN.fz (en_slice (Ev.sd (ev_var 0 rfl h_script)) eo_none (eo_some ev_int))))) e_xs1.symm) w (fun i F1 M1 σ1 => ∃ (o_cell : Option V) (o_number_here : Option V) (o_pitch : Option V) (o_cells : Option V) (o_due : Option V) (o_part : Option V) (o_k : Option V), σ1 = [some v0, o_cell, o_number_here, o_pitch, o_cells, o_due, o_part, o_k] ∧ M = M1 ∧ True) (fun F1 s1 => ?_) ?_ ?_ ?_ PassesOwn.never nd
  · refine ⟨none, none, none, none, none, none, none, rfl, rfl, ?_⟩
    show True
    exact (by /-init0-/ simp)
  · exact fun _ _ _ _ _ _ h => h
  · rintro F1 i0 cell1 v_cell1 F2 M1 H1 σ1 s1 hx0 ⟨o_cell, o_number_here, o_pitch, o_cells, o_due, o_part, o_k, rfl, rfl, hI0⟩ s2 w h_cell_1
    replace hI0 : True := hI0
    have h_script_1 := Mono.mono (s1.trans s2) h_script
    cases (show v_cell1 = V.int cell1 from h_cell_1)
    have hl0 := (List.getElem?_eq_some_iff.mp hx0).1
    show WSs _ _ _ [some v0, some (.int cell1), o_number_here, o_pitch, o_cells, o_due, o_part, o_k] _
    obtain ⟨number_here1, e_number_here1⟩ : ∃ z, z = (cell1 / (5 : Int)) := ⟨_, rfl⟩
    refine ss_setI 2 (Ev.eq (ev_div (ev_var (r := iR) 1 rfl rfl) ev_int) e_number_here1.symm) w (fun H2 w => ?_) nd
    show WSs _ _ _ [some v0, some (.int cell1), some (.int number_here1), o_pitch, o_cells, o_due, o_part, o_k] _
    refine ss_set 3 (ev_call (x := (number_here1, (0 : Int), (127 : Int), ())) (ok_number T) (hr.mono (by decide)) T.g_number T.F_number.kp T.b_number (ea_cons (r := iR) (ev_var (r := iR) 2 rfl rfl) (ea_cons (r := iR) ev_int (ea_cons (r := iR) ev_int ea_nil))) (show (0 : Int) ≤ (127 : Int) from (by /-pre_number.0-/ first | assumption | omega | (dsimp only; omega) | (simp_all; done) | (simp_all <;> omega)))) w (fun F3 H3 v1 s3 w ⟨pitch1, h_pitch_1, hp_pitch_1⟩ => ?_) nd
    replace h_pitch_1 : iR F3 v1 pitch1 := h_pitch_1
    replace hp_pitch_1 : (0 : Int) ≤ pitch1 ∧ pitch1 ≤ (127 : Int) := hp_pitch_1
    have h_script_2 := Mono.mono s3 h_script_1
    cases (show v1 = V.int pitch1 from h_pitch_1)
    show WSs _ _ _ [some v0, some (.int cell1), some (.int number_here1), some (.int pitch1), o_cells, o_due, o_part, o_k] _
    refine ss_set 4 (ev_call (x := ((number_here1 / (7 : Int)), (1 : Int), (2000 : Int), ())) (ok_number T) (hr.mono (by decide)) T.g_number T.F_number.kp T.b_number (ea_cons (r := iR) (ev_div (ev_var (r := iR) 2 rfl rfl) ev_int) (ea_cons (r := iR) ev_int (ea_cons (r := iR) ev_int ea_nil))) (show (1 : Int) ≤ (2000 : Int) from (by /-pre_number.1-/ first | assumption | omega | (dsimp only; omega) | (simp_all; done) | (simp_all <;> omega)))) w (fun F4 H4 v2 s4 w ⟨cells1, h_cells_1, hp_cells_1⟩ => ?_) nd
    replace h_cells_1 : iR F4 v2 cells1 := h_cells_1
    replace hp_cells_1 : (1 : Int) ≤ cells1 ∧ cells1 ≤ (2000 : Int) := hp_cells_1
    have h_script_3 := Mono.mono s4 h_script_2
    cases (show v2 = V.int cells1 from h_cells_1)
    show WSs _ _ _ [some v0, some (.int cell1), some (.int number_here1), some (.int pitch1), some (.int cells1), o_due, o_part, o_k] _
    obtain ⟨due1, e_due1⟩ : ∃ z, z = ([(some cells1), (some (1 : Int)), (some (1 : Int)), (some (1 : Int)), (some pitch1), (some pitch1)], [(((numT pitch1) ++ ("." : Str)) ++ (numT cells1))]) := ⟨_, rfl⟩
    refine ss_set 5 (Ev.eq (ev_due (ea_dueC (Ev.someO (r := iR) (ev_var (r := iR) 4 rfl rfl)) (ea_dueC (Ev.someO (r := iR) ev_int) (ea_dueC (Ev.someO (r := iR) ev_int) (ea_dueC (Ev.someO (r := iR) ev_int) (ea_dueC (Ev.someO (r := iR) (ev_var (r := iR) 3 rfl rfl)) (ea_dueC (Ev.someO (r := iR) (ev_var (r := iR) 3 rfl rfl)) (ea_due1 (EvN.fz (en_lst (r := sR) (ea_consL (ev_catS (ev_catS (ev_strI T.str_n (ev_var (r := iR) 3 rfl rfl) (by /-str.0-/ exact log_small (by omega))) (ev_str) (by /-cats.0-/ have z1 := numT_small (i := pitch1) (by omega); have z2 := numT_small (i := cells1) (by omega); have e1 : (".").length = 1 := rfl; have e2 : ("r.").length = 2 := rfl; simp only [str_len_app, strLen_ofString]; omega)) (ev_strI T.str_n (ev_var (r := iR) 4 rfl rfl) (by /-str.1-/ exact log_small (by omega))) (by /-cats.1-/ have z1 := numT_small (i := pitch1) (by omega); have z2 := numT_small (i := cells1) (by omega); have e1 : (".").length = 1 := rfl; have e2 : ("r.").length = 2 := rfl; simp only [str_len_app, strLen_ofString]; omega)) ea_nilL))))))))))) e_due1.symm) w (fun F5 H5 v3 s5 w (h_due_1 : dueR F5 v3 due1) => ?_) nd
    have h_script_4 := Mono.mono s5 h_script_3
    have hd : due1.1.length = 6 := by rw [e_due1]; rfl
    show WSs _ _ _ [some v0, some (.int cell1), some (.int number_here1), some (.int pitch1), some (.int cells1), some v3, o_part, o_k] _
    refine ss_if (bx_eqI (ev_mod (ev_var (r := iR) 1 rfl rfl) ev_int) ev_int) w (fun cR0 H6 w => ?_) (fun cR0 H6 w => ?_)
    · have cN0 := cR0; try simp only [Bool.or_eq_true, Bool.or_eq_false_iff, Bool.and_eq_true, Bool.and_eq_false_imp, decide_eq_true_eq, decide_eq_false_iff_not, Bool.not_eq_true', Bool.not_eq_false', Bool.not_true, Bool.not_false, Int.not_lt, Int.not_le] at cN0
      refine ss_if (bx_not (bx_val (show EvF _ _ _ _ _ bR (true) from ev_call (x := ((some (beyondF number_here1 (0 : Int) (127 : Int))), cells1, ())) (ok_refused T) (hr.mono (by decide)) T.g_refused T.F_refused.kp T.b_refused (ea_cons (r := (oR iR)) (Ev.someO (r := iR) (show EvF _ _ _ _ _ iR (beyondF number_here1 (0 : Int) (127 : Int)) from ev_call (x := (number_here1, (0 : Int), (127 : Int), ())) (ok_beyond T) (hr.mono (by decide)) T.g_beyond T.F_beyond.kp T.b_beyond (ea_cons (r := iR) (ev_var (r := iR) 2 rfl rfl) (ea_cons (r := iR) ev_int (ea_cons (r := iR) ev_int ea_nil))) (show (0 : Int) ≤ (127 : Int) from (by /-pre_beyond.0-/ first | assumption | omega | (dsimp only; omega) | (simp_all; done) | (simp_all <;> omega))))) (ea_cons (r := iR) (ev_var (r := iR) 4 rfl rfl) ea_nil)) (show ¬ (1 ≤ cells1 ∧ cells1 ≤ 2000) ∨ ∃ p, (some (beyondF number_here1 (0 : Int) (127 : Int))) = some p ∧ ¬ (0 ≤ p ∧ p ≤ 127) from (by /-pre_refused.0-/ refine .inr ⟨_, rfl, fun q => ?_⟩; have := beyond_out (c := number_here1) (show (0:Int) ≤ 127 by decide); omega))))) w (fun cR1 H7 w => ?_) (fun cR1 H7 w => ?_)
      · have cN1 := cR1; try simp only [Bool.or_eq_true, Bool.or_eq_false_iff, Bool.and_eq_true, Bool.and_eq_false_imp, decide_eq_true_eq, decide_eq_false_iff_not, Bool.not_eq_true', Bool.not_eq_false', Bool.not_true, Bool.not_false, Int.not_lt, Int.not_le] at cN1
        refine ss_ret ev_bl w (fun F6 H8 v4 s6 w (hv1 : bR F6 v4 false) => kk _ _ _ (((((s1.trans s2).trans s3).trans s4).trans s5).trans s6) (w.lessM (Same.refl _)) ?_)
        have hq : false = true := (by /-ret.0-/ simp_all)
        show v4 = V.bl true
        rw [← hq]; exact hv1
      · have cN1 := cR1; try simp only [Bool.or_eq_true, Bool.or_eq_false_iff, Bool.and_eq_true, Bool.and_eq_false_imp, decide_eq_true_eq, decide_eq_false_iff_not, Bool.not_eq_true', Bool.not_eq_false', Bool.not_true, Bool.not_false, Int.not_lt, Int.not_le] at cN1
        refine ss_nil ?_
        show WSs _ _ _ [some v0, some (.int cell1), some (.int number_here1), some (.int pitch1), some (.int cells1), some v3, o_part, o_k] _
        refine ss_nil ?_
        show WSs _ _ _ [some v0, some (.int cell1), some (.int number_here1), some (.int pitch1), some (.int cells1), some v3, o_part, o_k] _
        refine ss_nil ?_
        refine ⟨_, _, (((s2.trans s3).trans s4).trans s5), w, some (.int cell1), some (.int number_here1), some (.int pitch1), some (.int cells1), some v3, o_part, o_k, rfl, rfl, ?_⟩
        show True
        exact (by /-step0.0-/ trivial)
    · have cN0 := cR0; try simp only [Bool.or_eq_true, Bool.or_eq_false_iff, Bool.and_eq_true, Bool.and_eq_false_imp, decide_eq_true_eq, decide_eq_false_iff_not, Bool.not_eq_true', Bool.not_eq_false', Bool.not_true, Bool.not_false, Int.not_lt, Int.not_le] at cN0
      refine ss_if (bx_eqI (ev_mod (ev_var (r := iR) 1 rfl rfl) ev_int) ev_int) w (fun cR2 H9 w => ?_) (fun cR2 H9 w => ?_)
      · have cN2 := cR2; try simp only [Bool.or_eq_true, Bool.or_eq_false_iff, Bool.and_eq_true, Bool.and_eq_false_imp, decide_eq_true_eq, decide_eq_false_iff_not, Bool.not_eq_true', Bool.not_eq_false', Bool.not_true, Bool.not_false, Int.not_lt, Int.not_le] at cN2
        refine ss_if (bx_not (bx_val (show EvF _ _ _ _ _ bR (true) from ev_call (x := ((gI ([(some pitch1), none]) (number_here1 % (2 : Int))), (beyondF (number_here1 / (2 : Int)) (1 : Int) (2000 : Int)), ())) (ok_refused T) (hr.mono (by decide)) T.g_refused T.F_refused.kp T.b_refused (ea_cons (r := (oR iR)) (ev_ix (Ev.rd (EvN.fz (en_lst (r := (oR iR)) (ea_consL (Ev.someO (r := iR) (ev_var (r := iR) 3 rfl rfl)) (ea_consL (ev_noneO (r := iR)) ea_nilL))))) (ev_mod (ev_var (r := iR) 2 rfl rfl) ev_int) (by /-ix.0-/ first | (constructor <;> omega) | (constructor <;> (simp <;> omega)))) (ea_cons (r := iR) (show EvF _ _ _ _ _ iR (beyondF (number_here1 / (2 : Int)) (1 : Int) (2000 : Int)) from ev_call (x := ((number_here1 / (2 : Int)), (1 : Int), (2000 : Int), ())) (ok_beyond T) (hr.mono (by decide)) T.g_beyond T.F_beyond.kp T.b_beyond (ea_cons (r := iR) (ev_div (ev_var (r := iR) 2 rfl rfl) ev_int) (ea_cons (r := iR) ev_int (ea_cons (r := iR) ev_int ea_nil))) (show (1 : Int) ≤ (2000 : Int) from (by /-pre_beyond.1-/ first | assumption | omega | (dsimp only; omega) | (simp_all; done) | (simp_all <;> omega)))) ea_nil)) (show ¬ (1 ≤ (beyondF (number_here1 / (2 : Int)) (1 : Int) (2000 : Int)) ∧ (beyondF (number_here1 / (2 : Int)) (1 : Int) (2000 : Int)) ≤ 2000) ∨ ∃ p, (gI ([(some pitch1), none]) (number_here1 % (2 : Int))) = some p ∧ ¬ (0 ≤ p ∧ p ≤ 127) from (by /-pre_refused.1-/ refine .inl fun q => ?_; have := beyond_out (c := number_here1 / 2) (show (1:Int) ≤ 2000 by decide); omega))))) w (fun cR3 H10 w => ?_) (fun cR3 H10 w => ?_)
        · have cN3 := cR3; try simp only [Bool.or_eq_true, Bool.or_eq_false_iff, Bool.and_eq_true, Bool.and_eq_false_imp, decide_eq_true_eq, decide_eq_false_iff_not, Bool.not_eq_true', Bool.not_eq_false', Bool.not_true, Bool.not_false, Int.not_lt, Int.not_le] at cN3
          refine ss_ret ev_bl w (fun F7 H11 v5 s7 w (hv2 : bR F7 v5 false) => kk _ _ _ (((((s1.trans s2).trans s3).trans s4).trans s5).trans s7) (w.lessM (Same.refl _)) ?_)
          have hq : false = true := (by /-ret.1-/ simp_all)
          show v5 = V.bl true
          rw [← hq]; exact hv2
        · have cN3 := cR3; try simp only [Bool.or_eq_true, Bool.or_eq_false_iff, Bool.and_eq_true, Bool.and_eq_false_imp, decide_eq_true_eq, decide_eq_false_iff_not, Bool.not_eq_true', Bool.not_eq_false', Bool.not_true, Bool.not_false, Int.not_lt, Int.not_le] at cN3
          refine ss_nil ?_
          show WSs _ _ _ [some v0, some (.int cell1), some (.int number_here1), some (.int pitch1), some (.int cells1), some v3, o_part, o_k] _
          refine ss_nil ?_
          show WSs _ _ _ [some v0, some (.int cell1), some (.int number_here1), some (.int pitch1), some (.int cells1), some v3, o_part, o_k] _
          refine ss_nil ?_
          show WSs _ _ _ [some v0, some (.int cell1), some (.int number_here1), some (.int pitch1), some (.int cells1), some v3, o_part, o_k] _
          refine ss_nil ?_
          refine ⟨_, _, (((s2.trans s3).trans s4).trans s5), w, some (.int cell1), some (.int number_here1), some (.int pitch1), some (.int cells1), some v3, o_part, o_k, rfl, rfl, ?_⟩
          show True
          exact (by /-step0.1-/ trivial)
      · have cN2 := cR2; try simp only [Bool.or_eq_true, Bool.or_eq_false_iff, Bool.and_eq_true, Bool.and_eq_false_imp, decide_eq_true_eq, decide_eq_false_iff_not, Bool.not_eq_true', Bool.not_eq_false', Bool.not_true, Bool.not_false, Int.not_lt, Int.not_le] at cN2
        have ex1 : ∀ Fz Hz cz dz, Same F5 Fz → Own Fz M Hz → ((cz = Value.ref ad.c_NoPart ∧ dz = none) ∧ (¬ ((0 ≤ pitch1 ∧ pitch1 ≤ 127) ∧ (1 ≤ cells1 ∧ cells1 ≤ 2000)))) → (fun (_ : Value) (_ : Option Addr) (_ : L2.St) (_ : Hp) => False) cz dz [some v0, some (.int cell1), some (.int number_here1), some (.int pitch1), some (.int cells1), some v3, o_part, o_k] Hz := fun Fz Hz cz dz sz wz hrx => (by /-ex_Tone_init.0-/ exact hrx.2 (by first | assumption | omega | simp_all))
        refine ss_set 6 (ev_make (r := fun F v (_ : Unit) => ∃ y, pR ad.pc F v y ∧ (y = (toneP pitch1 cells1) ∧ ((0 ≤ pitch1 ∧ pitch1 ≤ 127) ∧ (1 ≤ cells1 ∧ cells1 ≤ 2000)))) (y := ()) (x := (pitch1, cells1, ())) takes0 T.mk_Tone (ok_Tone_init T) (hr.mono (by decide)) T.pk_Tone T.b_Tone_init rfl (ea_cons (r := iR) (ev_var (r := iR) 3 rfl rfl) (ea_cons (r := iR) (ev_var (r := iR) 4 rfl rfl) ea_nil)) (by /-pre_Tone_init.0-/ trivial) ex1 (fun F2 q dx fs hq ⟨F0, s0, hm, hb⟩ => ⟨_, made_pR (pc := ad.pc) (t := (toneP pitch1 cells1)) hq s0 hm, rfl, hb⟩)) w (fun F9 H13 v6 s9 w ⟨part1, h_part_1, hp_part_1⟩ => ?_) nd
        replace h_part_1 : (pR ad.pc) F9 v6 part1 := h_part_1
        replace hp_part_1 : part1 = (toneP pitch1 cells1) ∧ ((0 ≤ pitch1 ∧ pitch1 ≤ 127) ∧ (1 ≤ cells1 ∧ cells1 ≤ 2000)) := hp_part_1
        have h_script_5 := Mono.mono s9 h_script_4
        have h_due_2 := Mono.mono s9 h_due_1
        have hk := tone_sound hp_part_1
        have HA := tone_are hp_part_1 e_due1
        show WSs _ _ _ [some v0, some (.int cell1), some (.int number_here1), some (.int pitch1), some (.int cells1), some v3, some v6, o_k] _
        refine ss_if (bx_eqI (ev_mod (ev_var (r := iR) 1 rfl rfl) ev_int) ev_int) w (fun cR4 H14 w => ?_) (fun cR4 H14 w => ?_)
        · have cN4 := cR4; try simp only [Bool.or_eq_true, Bool.or_eq_false_iff, Bool.and_eq_true, Bool.and_eq_false_imp, decide_eq_true_eq, decide_eq_false_iff_not, Bool.not_eq_true', Bool.not_eq_false', Bool.not_true, Bool.not_false, Int.not_lt, Int.not_le] at cN4
          have ex2 : ∀ Fz Hz cz dz, Same F9 Fz → Own Fz M Hz → ((cz = Value.ref ad.c_NoPart ∧ dz = none) ∧ (¬ (1 ≤ cells1 ∧ cells1 ≤ 2000))) → (fun (_ : Value) (_ : Option Addr) (_ : L2.St) (_ : Hp) => False) cz dz [some v0, some (.int cell1), some (.int number_here1), some (.int pitch1), some (.int cells1), some v3, some v6, o_k] Hz := fun Fz Hz cz dz sz wz hrx => (by /-ex_Rest_init.0-/ exact hrx.2 (by first | assumption | omega | simp_all))
          refine ss_set 6 (ev_make (r := fun F v (_ : Unit) => ∃ y, pR ad.pc F v y ∧ (y = (restP cells1) ∧ (1 ≤ cells1 ∧ cells1 ≤ 2000))) (y := ()) (x := (cells1, ())) takes0 T.mk_Rest (ok_Rest_init T) (hr.mono (by decide)) T.pk_Rest T.b_Rest_init rfl (ea_cons (r := iR) (ev_var (r := iR) 4 rfl rfl) ea_nil) (by /-pre_Rest_init.0-/ trivial) ex2 (fun F2 q dx fs hq ⟨F0, s0, hm, hb⟩ => ⟨_, made_pR (pc := ad.pc) (t := (restP cells1)) hq s0 hm, rfl, hb⟩)) w (fun F11 H16 v7 s11 w ⟨part2, h_part_2, hp_part_2⟩ => ?_) nd
          replace h_part_2 : (pR ad.pc) F11 v7 part2 := h_part_2
          replace hp_part_2 : part2 = (restP cells1) ∧ (1 ≤ cells1 ∧ cells1 ≤ 2000) := hp_part_2
          have h_script_6 := Mono.mono s11 h_script_5
          have h_due_3 := Mono.mono s11 h_due_2
          have hk := rest_sound hp_part_2
          have hq2 := hp_part_2
          show WSs _ _ _ [some v0, some (.int cell1), some (.int number_here1), some (.int pitch1), some (.int cells1), some v3, some v7, o_k] _
          obtain ⟨due2, e_due2⟩ : ∃ z, z = ([(some cells1), (some (1 : Int)), (some (1 : Int)), (some (1 : Int)), none, none], [(("r." : Str) ++ (numT cells1))]) := ⟨_, rfl⟩
          refine ss_set 5 (Ev.eq (ev_due (ea_dueC (Ev.someO (r := iR) (ev_var (r := iR) 4 rfl rfl)) (ea_dueC (Ev.someO (r := iR) ev_int) (ea_dueC (Ev.someO (r := iR) ev_int) (ea_dueC (Ev.someO (r := iR) ev_int) (ea_dueC (ev_noneO (r := iR)) (ea_dueC (ev_noneO (r := iR)) (ea_due1 (EvN.fz (en_lst (r := sR) (ea_consL (ev_catS (ev_str) (ev_strI T.str_n (ev_var (r := iR) 4 rfl rfl) (by /-str.2-/ exact log_small (by omega))) (by /-cats.2-/ have z1 := numT_small (i := pitch1) (by omega); have z2 := numT_small (i := cells1) (by omega); have e1 : (".").length = 1 := rfl; have e2 : ("r.").length = 2 := rfl; simp only [str_len_app, strLen_ofString]; omega)) ea_nilL))))))))))) e_due2.symm) w (fun F12 H17 v8 s12 w (h_due_4 : dueR F12 v8 due2) => ?_) nd
          have h_script_7 := Mono.mono s12 h_script_6
          have h_part_3 := Mono.mono s12 h_part_2
          have hd : due2.1.length = 6 := by rw [e_due2]; rfl
          have HA := rest_are hq2 e_due2
          show WSs _ _ _ [some v0, some (.int cell1), some (.int number_here1), some (.int pitch1), some (.int cells1), some v8, some v7, o_k] _
          refine ss_nil ?_
          show WSs _ _ _ [some v0, some (.int cell1), some (.int number_here1), some (.int pitch1), some (.int cells1), some v8, some v7, o_k] _
          refine ss_for 7 (ei_range1 T.range_n ev_int (by /-rng.0-/ constructor <;> omega)) w (fun i F1 M1 σ1 => ∃ (o_k : Option V), σ1 = [some v0, some (.int cell1), some (.int number_here1), some (.int pitch1), some (.int cells1), some v8, some v7, o_k] ∧ M = M1 ∧ True) (fun F1 s1 => ?_) ?_ ?_ ?_ PassesOwn.never nd
          · refine ⟨o_k, rfl, rfl, ?_⟩
            show True
            exact (by /-init1-/ simp)
          · exact fun _ _ _ _ _ _ h => h
          · rintro F13 i1 k1 v_k1 F14 M1 H18 σ1 s13 hx1 ⟨o_k, rfl, rfl, hI1⟩ s14 w h_k_1
            replace hI1 : True := hI1
            have h_script_8 := Mono.mono (s13.trans s14) h_script_7
            have h_part_4 := Mono.mono (s13.trans s14) h_part_3
            have h_due_5 := Mono.mono (s13.trans s14) h_due_4
            cases (show v_k1 = V.int k1 from h_k_1)
            obtain ⟨hl1, e_k1⟩ := rng_at hx1
            show WSs _ _ _ [some v0, some (.int cell1), some (.int number_here1), some (.int pitch1), some (.int cells1), some v8, some v7, some (.int k1)] _
            refine ss_if (bx_not (bx_val (show EvF _ _ _ _ _ bR ((decide ([some part2.m.cells, some part2.m.leaves, some part2.m.size, some part2.m.depth, part2.m.low, part2.m.high] = due2.1) && decide (wordsP part2 = due2.2))) from ev_call (x := (part2, due2, ())) (ok_are T) (hr.mono (by decide)) T.g_are T.F_are.kp T.b_are (ea_cons (r := (pR ad.pc)) (ev_var 6 rfl h_part_4) (ea_cons (r := dueR) (ev_var 5 rfl h_due_5) ea_nil)) (show (due2.1.length = 6) ∧ ((part2).k = .tone ∨ (part2).k = .rest) ∧ Sound (part2) from (by /-pre_are.0-/ exact ⟨hd, by first | exact .inl hk.1 | exact .inr hk.1, hk.2⟩))))) w (fun cR5 H19 w => ?_) (fun cR5 H19 w => ?_)
            · have cN5 := cR5; try simp only [Bool.or_eq_true, Bool.or_eq_false_iff, Bool.and_eq_true, Bool.and_eq_false_imp, decide_eq_true_eq, decide_eq_false_iff_not, Bool.not_eq_true', Bool.not_eq_false', Bool.not_true, Bool.not_false, Int.not_lt, Int.not_le] at cN5
              refine ss_ret ev_bl w (fun F15 H20 v9 s15 w (hv3 : bR F15 v9 false) => kk _ _ _ (((((((((s1.trans s2).trans s3).trans s4).trans s5).trans s9).trans s11).trans s12).trans (s13.trans s14)).trans s15) (w.lessM (Same.refl _)) ?_)
              have hq : false = true := (by /-ret.2-/ first | (simp_all; done) | (exfalso; rw [HA] at cR5; cases cR5))
              show v9 = V.bl true
              rw [← hq]; exact hv3
            · have cN5 := cR5; try simp only [Bool.or_eq_true, Bool.or_eq_false_iff, Bool.and_eq_true, Bool.and_eq_false_imp, decide_eq_true_eq, decide_eq_false_iff_not, Bool.not_eq_true', Bool.not_eq_false', Bool.not_true, Bool.not_false, Int.not_lt, Int.not_le] at cN5
              refine ss_nil ?_
              show WSs _ _ _ [some v0, some (.int cell1), some (.int number_here1), some (.int pitch1), some (.int cells1), some v8, some v7, some (.int k1)] _
              refine ss_appN (s := sR) (show EvN _ _ _ _ _ sR (wordsP (part2)) from (have hw : ((part2).k = .tone ∨ (part2).k = .rest) ∧ Sound (part2) := (by /-pre_words.0-/ exact ⟨by first | exact .inl hk.1 | exact .inr hk.1, hk.2⟩); (fun ho => ho.elim (fun hk => (en_pmeth T.PC (by rw [hk]; exact T.me_words .tone) (ok_Tone_words T) (hr.mono (by decide)) T.b_Tone_words (ev_var 6 rfl h_part_4) ⟨hk, hw.2⟩).eq (fun _ h => h)) (fun hk => (en_pmeth T.PC (by rw [hk]; exact T.me_words .rest) (ok_Rest_words T) (hr.mono (by decide)) T.b_Rest_words (ev_var 6 rfl h_part_4) ⟨hk, hw.2⟩).eq (fun _ h => h))) hw.1)) (by /-app.0-/ first | (rw [wordsP_tone hk.1]; show 1 < 1000000; decide) | (rw [wordsP_rest hk.1]; show 1 < 1000000; decide)) (fun _ => (ev_str)) w (fun F16 H21 s16 w => ?_)
              have h_script_9 := Mono.mono s16 h_script_8
              have h_part_5 := Mono.mono s16 h_part_4
              have h_due_6 := Mono.mono s16 h_due_5
              show WSs _ _ _ [some v0, some (.int cell1), some (.int number_here1), some (.int pitch1), some (.int cells1), some v8, some v7, some (.int k1)] _
              refine ss_nil ?_
              refine ⟨_, _, (s14.trans s16), w, some (.int k1), rfl, rfl, ?_⟩
              show True
              exact (by /-step1.0-/ trivial)
          · rintro F17 M1 H22 σ1 s17 w ⟨o_k, rfl, rfl, hI1⟩
            replace hI1 : True := (by have z := hI1; first | (simp only [rng_len, rngD_len] at z; exact z) | exact z)
            have h_script_10 := Mono.mono s17 h_script_7
            have h_part_6 := Mono.mono s17 h_part_3
            have h_due_7 := Mono.mono s17 h_due_4
            show WSs _ _ _ [some v0, some (.int cell1), some (.int number_here1), some (.int pitch1), some (.int cells1), some v8, some v7, o_k] _
            refine ss_nil ?_
            show WSs _ _ _ [some v0, some (.int cell1), some (.int number_here1), some (.int pitch1), some (.int cells1), some v8, some v7, o_k] _
            refine ss_nil ?_
            show WSs _ _ _ [some v0, some (.int cell1), some (.int number_here1), some (.int pitch1), some (.int cells1), some v8, some v7, o_k] _
            refine ss_nil ?_
            refine ⟨_, _, (((((((s2.trans s3).trans s4).trans s5).trans s9).trans s11).trans s12).trans s17), w, some (.int cell1), some (.int number_here1), some (.int pitch1), some (.int cells1), some v8, some v7, o_k, rfl, rfl, ?_⟩
            show True
            exact (by /-step0.2-/ trivial)
        · have cN4 := cR4; try simp only [Bool.or_eq_true, Bool.or_eq_false_iff, Bool.and_eq_true, Bool.and_eq_false_imp, decide_eq_true_eq, decide_eq_false_iff_not, Bool.not_eq_true', Bool.not_eq_false', Bool.not_true, Bool.not_false, Int.not_lt, Int.not_le] at cN4
          refine ss_nil ?_
          show WSs _ _ _ [some v0, some (.int cell1), some (.int number_here1), some (.int pitch1), some (.int cells1), some v3, some v6, o_k] _
          refine ss_for 7 (ei_range1 T.range_n ev_int (by /-rng.0-/ constructor <;> omega)) w (fun i F1 M1 σ1 => ∃ (o_k : Option V), σ1 = [some v0, some (.int cell1), some (.int number_here1), some (.int pitch1), some (.int cells1), some v3, some v6, o_k] ∧ M = M1 ∧ True) (fun F1 s1 => ?_) ?_ ?_ ?_ PassesOwn.never nd
          · refine ⟨o_k, rfl, rfl, ?_⟩
            show True
            exact (by /-init1-/ simp)
          · exact fun _ _ _ _ _ _ h => h
          · rintro F18 i1 k2 v_k2 F19 M1 H23 σ1 s18 hx1 ⟨o_k, rfl, rfl, hI1⟩ s19 w h_k_2
            replace hI1 : True := hI1
            have h_script_11 := Mono.mono (s18.trans s19) h_script_5
            have h_due_8 := Mono.mono (s18.trans s19) h_due_2
            have h_part_7 := Mono.mono (s18.trans s19) h_part_1
            cases (show v_k2 = V.int k2 from h_k_2)
            obtain ⟨hl1, e_k2⟩ := rng_at hx1
            show WSs _ _ _ [some v0, some (.int cell1), some (.int number_here1), some (.int pitch1), some (.int cells1), some v3, some v6, some (.int k2)] _
            refine ss_if (bx_not (bx_val (show EvF _ _ _ _ _ bR ((decide ([some part1.m.cells, some part1.m.leaves, some part1.m.size, some part1.m.depth, part1.m.low, part1.m.high] = due1.1) && decide (wordsP part1 = due1.2))) from ev_call (x := (part1, due1, ())) (ok_are T) (hr.mono (by decide)) T.g_are T.F_are.kp T.b_are (ea_cons (r := (pR ad.pc)) (ev_var 6 rfl h_part_7) (ea_cons (r := dueR) (ev_var 5 rfl h_due_8) ea_nil)) (show (due1.1.length = 6) ∧ ((part1).k = .tone ∨ (part1).k = .rest) ∧ Sound (part1) from (by /-pre_are.0-/ exact ⟨hd, by first | exact .inl hk.1 | exact .inr hk.1, hk.2⟩))))) w (fun cR5 H24 w => ?_) (fun cR5 H24 w => ?_)
            · have cN5 := cR5; try simp only [Bool.or_eq_true, Bool.or_eq_false_iff, Bool.and_eq_true, Bool.and_eq_false_imp, decide_eq_true_eq, decide_eq_false_iff_not, Bool.not_eq_true', Bool.not_eq_false', Bool.not_true, Bool.not_false, Int.not_lt, Int.not_le] at cN5
              refine ss_ret ev_bl w (fun F20 H25 v10 s20 w (hv4 : bR F20 v10 false) => kk _ _ _ (((((((s1.trans s2).trans s3).trans s4).trans s5).trans s9).trans (s18.trans s19)).trans s20) (w.lessM (Same.refl _)) ?_)
              have hq : false = true := (by /-ret.2-/ first | (simp_all; done) | (exfalso; rw [HA] at cR5; cases cR5))
              show v10 = V.bl true
              rw [← hq]; exact hv4
            · have cN5 := cR5; try simp only [Bool.or_eq_true, Bool.or_eq_false_iff, Bool.and_eq_true, Bool.and_eq_false_imp, decide_eq_true_eq, decide_eq_false_iff_not, Bool.not_eq_true', Bool.not_eq_false', Bool.not_true, Bool.not_false, Int.not_lt, Int.not_le] at cN5
              refine ss_nil ?_
              show WSs _ _ _ [some v0, some (.int cell1), some (.int number_here1), some (.int pitch1), some (.int cells1), some v3, some v6, some (.int k2)] _
              refine ss_appN (s := sR) (show EvN _ _ _ _ _ sR (wordsP (part1)) from (have hw : ((part1).k = .tone ∨ (part1).k = .rest) ∧ Sound (part1) := (by /-pre_words.0-/ exact ⟨by first | exact .inl hk.1 | exact .inr hk.1, hk.2⟩); (fun ho => ho.elim (fun hk => (en_pmeth T.PC (by rw [hk]; exact T.me_words .tone) (ok_Tone_words T) (hr.mono (by decide)) T.b_Tone_words (ev_var 6 rfl h_part_7) ⟨hk, hw.2⟩).eq (fun _ h => h)) (fun hk => (en_pmeth T.PC (by rw [hk]; exact T.me_words .rest) (ok_Rest_words T) (hr.mono (by decide)) T.b_Rest_words (ev_var 6 rfl h_part_7) ⟨hk, hw.2⟩).eq (fun _ h => h))) hw.1)) (by /-app.0-/ first | (rw [wordsP_tone hk.1]; show 1 < 1000000; decide) | (rw [wordsP_rest hk.1]; show 1 < 1000000; decide)) (fun _ => (ev_str)) w (fun F21 H26 s21 w => ?_)
              have h_script_12 := Mono.mono s21 h_script_11
              have h_due_9 := Mono.mono s21 h_due_8
              have h_part_8 := Mono.mono s21 h_part_7
              show WSs _ _ _ [some v0, some (.int cell1), some (.int number_here1), some (.int pitch1), some (.int cells1), some v3, some v6, some (.int k2)] _
              refine ss_nil ?_
              refine ⟨_, _, (s19.trans s21), w, some (.int k2), rfl, rfl, ?_⟩
              show True
              exact (by /-step1.1-/ trivial)
          · rintro F22 M1 H27 σ1 s22 w ⟨o_k, rfl, rfl, hI1⟩
            replace hI1 : True := (by have z := hI1; first | (simp only [rng_len, rngD_len] at z; exact z) | exact z)
            have h_script_13 := Mono.mono s22 h_script_5
            have h_due_10 := Mono.mono s22 h_due_2
            have h_part_9 := Mono.mono s22 h_part_1
            show WSs _ _ _ [some v0, some (.int cell1), some (.int number_here1), some (.int pitch1), some (.int cells1), some v3, some v6, o_k] _
            refine ss_nil ?_
            show WSs _ _ _ [some v0, some (.int cell1), some (.int number_here1), some (.int pitch1), some (.int cells1), some v3, some v6, o_k] _
            refine ss_nil ?_
            show WSs _ _ _ [some v0, some (.int cell1), some (.int number_here1), some (.int pitch1), some (.int cells1), some v3, some v6, o_k] _
            refine ss_nil ?_
            refine ⟨_, _, (((((s2.trans s3).trans s4).trans s5).trans s9).trans s22), w, some (.int cell1), some (.int number_here1), some (.int pitch1), some (.int cells1), some v3, some v6, o_k, rfl, rfl, ?_⟩
            show True
            exact (by /-step0.3-/ trivial)
  · rintro F23 M1 H28 σ1 s23 w ⟨o_cell, o_number_here, o_pitch, o_cells, o_due, o_part, o_k, rfl, rfl, hI0⟩
    replace hI0 : True := hI0
    have h_script_14 := Mono.mono s23 h_script
    show WSs _ _ _ [some v0, o_cell, o_number_here, o_pitch, o_cells, o_due, o_part, o_k] _
    refine ss_ret ev_bl w (fun F24 H29 v11 s24 w (hv5 : bR F24 v11 true) => kk _ _ _ (s23.trans s24) (w.lessM (Same.refl _)) ?_)
    have hq : true = true := (by /-ret.3-/ simp_all)
    show v11 = V.bl true
    rw [← hq]; exact hv5
end
theorem all_mk {l : PySem.W.OpenLaw} {w : World} {K : PySem.W.Frag} {h : Heap} {mg : Str → Option Value} {fa : Addr} (X : K.In h) (G : h.Ns mainGlobals mg) (hfa : mg "law" = some (.ref fa))
    {f0 f1 f2 f3 f4 f5 f6 f7 f8 f9 f10 f11 f12 f13 f14 f15 f16 f17 f18 : Addr}
    {od0 an0 : Option Addr} {sl0 : Array (Option Value)} {oc0 kV0 dc0 pm0 cd0 ct0 : Value}
    {od1 an1 : Option Addr} {sl1 : Array (Option Value)} {oc1 kV1 dc1 pm1 cd1 ct1 : Value}
    {od2 an2 : Option Addr} {sl2 : Array (Option Value)} {oc2 kV2 dc2 pm2 cd2 ct2 : Value}
    {od3 an3 : Option Addr} {sl3 : Array (Option Value)} {oc3 kV3 dc3 pm3 cd3 ct3 : Value}
    {od4 an4 : Option Addr} {sl4 : Array (Option Value)} {oc4 kV4 dc4 pm4 cd4 ct4 : Value}
    {od5 an5 : Option Addr} {sl5 : Array (Option Value)} {oc5 kV5 dc5 pm5 cd5 ct5 : Value}
    {od6 an6 : Option Addr} {sl6 : Array (Option Value)} {oc6 kV6 dc6 pm6 cd6 ct6 : Value}
    {od7 an7 : Option Addr} {sl7 : Array (Option Value)} {oc7 kV7 dc7 pm7 cd7 ct7 : Value}
    {od8 an8 : Option Addr} {sl8 : Array (Option Value)} {oc8 kV8 dc8 pm8 cd8 ct8 : Value}
    {od9 an9 : Option Addr} {sl9 : Array (Option Value)} {oc9 kV9 dc9 pm9 cd9 ct9 : Value}
    {od10 an10 : Option Addr} {sl10 : Array (Option Value)} {oc10 kV10 dc10 pm10 cd10 ct10 : Value}
    {od11 an11 : Option Addr} {sl11 : Array (Option Value)} {oc11 kV11 dc11 pm11 cd11 ct11 : Value}
    {od12 an12 : Option Addr} {sl12 : Array (Option Value)} {oc12 kV12 dc12 pm12 cd12 ct12 : Value}
    {od13 an13 : Option Addr} {sl13 : Array (Option Value)} {oc13 kV13 dc13 pm13 cd13 ct13 : Value}
    {od14 an14 : Option Addr} {sl14 : Array (Option Value)} {oc14 kV14 dc14 pm14 cd14 ct14 : Value}
    {od15 an15 : Option Addr} {sl15 : Array (Option Value)} {oc15 kV15 dc15 pm15 cd15 ct15 : Value}
    {od16 an16 : Option Addr} {sl16 : Array (Option Value)} {oc16 kV16 dc16 pm16 cd16 ct16 : Value}
    {od17 an17 : Option Addr} {sl17 : Array (Option Value)} {oc17 kV17 dc17 pm17 cd17 ct17 : Value}
    {od18 an18 : Option Addr} {sl18 : Array (Option Value)} {oc18 kV18 dc18 pm18 cd18 ct18 : Value}
    {C_Part : Addr} (ac_Part : PySem.W.nsIn K mainGlobals "Part" = some (some (.ref C_Part)))
    {C_Tone : Addr} (ac_Tone : PySem.W.nsIn K mainGlobals "Tone" = some (some (.ref C_Tone)))
    {C_Rest : Addr} (ac_Rest : PySem.W.nsIn K mainGlobals "Rest" = some (some (.ref C_Rest)))
    (a0 : PySem.W.nsIn K mainGlobals "look_at" = some (some (.ref f0)))
    (l0 : K.lookup f0 = some ⟨oc0, od0, .func (PySem.W.fnOf "look_at" "look_at" (defArgs s_look_at) (defBody s_look_at) (defScope s_look_at) .none kV0 dc0 pm0 an0 cd0 ct0), sl0⟩) (c0 : PySem.W.codeIn K cd0 "look_at" = true) (k0 : PySem.W.keepIn K (.ref f0) = true)
    (a1 : PySem.W.findIn K (.ref C_Part) "cells" = some (some (.ref f1)))
    (l1 : K.lookup f1 = some ⟨oc1, od1, .func (PySem.W.fnOf "cells" "Part.cells" (defArgs s_Part_cells) (defBody s_Part_cells) (defScope s_Part_cells) .none kV1 dc1 pm1 an1 cd1 ct1), sl1⟩) (c1 : PySem.W.codeIn K cd1 "Part.cells" = true) (k1 : PySem.W.keepIn K (.ref f1) = true)
    (a2 : PySem.W.findIn K (.ref C_Part) "leaves" = some (some (.ref f2)))
    (l2 : K.lookup f2 = some ⟨oc2, od2, .func (PySem.W.fnOf "leaves" "Part.leaves" (defArgs s_Part_leaves) (defBody s_Part_leaves) (defScope s_Part_leaves) .none kV2 dc2 pm2 an2 cd2 ct2), sl2⟩) (c2 : PySem.W.codeIn K cd2 "Part.leaves" = true) (k2 : PySem.W.keepIn K (.ref f2) = true)
    (a3 : PySem.W.findIn K (.ref C_Part) "size" = some (some (.ref f3)))
    (l3 : K.lookup f3 = some ⟨oc3, od3, .func (PySem.W.fnOf "size" "Part.size" (defArgs s_Part_size) (defBody s_Part_size) (defScope s_Part_size) .none kV3 dc3 pm3 an3 cd3 ct3), sl3⟩) (c3 : PySem.W.codeIn K cd3 "Part.size" = true) (k3 : PySem.W.keepIn K (.ref f3) = true)
    (a4 : PySem.W.findIn K (.ref C_Part) "depth" = some (some (.ref f4)))
    (l4 : K.lookup f4 = some ⟨oc4, od4, .func (PySem.W.fnOf "depth" "Part.depth" (defArgs s_Part_depth) (defBody s_Part_depth) (defScope s_Part_depth) .none kV4 dc4 pm4 an4 cd4 ct4), sl4⟩) (c4 : PySem.W.codeIn K cd4 "Part.depth" = true) (k4 : PySem.W.keepIn K (.ref f4) = true)
    (a5 : PySem.W.findIn K (.ref C_Part) "lowest" = some (some (.ref f5)))
    (l5 : K.lookup f5 = some ⟨oc5, od5, .func (PySem.W.fnOf "lowest" "Part.lowest" (defArgs s_Part_lowest) (defBody s_Part_lowest) (defScope s_Part_lowest) .none kV5 dc5 pm5 an5 cd5 ct5), sl5⟩) (c5 : PySem.W.codeIn K cd5 "Part.lowest" = true) (k5 : PySem.W.keepIn K (.ref f5) = true)
    (a6 : PySem.W.findIn K (.ref C_Part) "highest" = some (some (.ref f6)))
    (l6 : K.lookup f6 = some ⟨oc6, od6, .func (PySem.W.fnOf "highest" "Part.highest" (defArgs s_Part_highest) (defBody s_Part_highest) (defScope s_Part_highest) .none kV6 dc6 pm6 an6 cd6 ct6), sl6⟩) (c6 : PySem.W.codeIn K cd6 "Part.highest" = true) (k6 : PySem.W.keepIn K (.ref f6) = true)
    (a7 : PySem.W.findIn K (.ref C_Part) "__init__" = some (some (.ref f7)))
    (l7 : K.lookup f7 = some ⟨oc7, od7, .func (PySem.W.fnOf "__init__" "Part.__init__" (defArgs s_Part_init) (defBody s_Part_init) (defScope s_Part_init) .none kV7 dc7 pm7 an7 cd7 ct7), sl7⟩) (c7 : PySem.W.codeIn K cd7 "Part.__init__" = true) (k7 : PySem.W.keepIn K (.ref f7) = true)
    (a8 : PySem.W.findIn K (.ref C_Tone) "__init__" = some (some (.ref f8)))
    (l8 : K.lookup f8 = some ⟨oc8, od8, .func (PySem.W.fnOf "__init__" "Tone.__init__" (defArgs s_Tone_init) (defBody s_Tone_init) (defScope s_Tone_init) .none kV8 dc8 pm8 an8 cd8 ct8), sl8⟩) (c8 : PySem.W.codeIn K cd8 "Tone.__init__" = true) (k8 : PySem.W.keepIn K (.ref f8) = true)
    (a9 : PySem.W.findIn K (.ref C_Rest) "__init__" = some (some (.ref f9)))
    (l9 : K.lookup f9 = some ⟨oc9, od9, .func (PySem.W.fnOf "__init__" "Rest.__init__" (defArgs s_Rest_init) (defBody s_Rest_init) (defScope s_Rest_init) .none kV9 dc9 pm9 an9 cd9 ct9), sl9⟩) (c9 : PySem.W.codeIn K cd9 "Rest.__init__" = true) (k9 : PySem.W.keepIn K (.ref f9) = true)
    (a10 : PySem.W.findIn K (.ref C_Tone) "words" = some (some (.ref f10)))
    (l10 : K.lookup f10 = some ⟨oc10, od10, .func (PySem.W.fnOf "words" "Tone.words" (defArgs s_Tone_words) (defBody s_Tone_words) (defScope s_Tone_words) .none kV10 dc10 pm10 an10 cd10 ct10), sl10⟩) (c10 : PySem.W.codeIn K cd10 "Tone.words" = true) (k10 : PySem.W.keepIn K (.ref f10) = true)
    (a11 : PySem.W.findIn K (.ref C_Rest) "words" = some (some (.ref f11)))
    (l11 : K.lookup f11 = some ⟨oc11, od11, .func (PySem.W.fnOf "words" "Rest.words" (defArgs s_Rest_words) (defBody s_Rest_words) (defScope s_Rest_words) .none kV11 dc11 pm11 an11 cd11 ct11), sl11⟩) (c11 : PySem.W.codeIn K cd11 "Rest.words" = true) (k11 : PySem.W.keepIn K (.ref f11) = true)
    (a12 : PySem.W.nsIn K mainGlobals "_law_whole" = some (some (.ref f12)))
    (l12 : K.lookup f12 = some ⟨oc12, od12, .func (PySem.W.fnOf "_law_whole" "_law_whole" (defArgs s_whole) (defBody s_whole) (defScope s_whole) .none kV12 dc12 pm12 an12 cd12 ct12), sl12⟩) (c12 : PySem.W.codeIn K cd12 "_law_whole" = true) (k12 : PySem.W.keepIn K (.ref f12) = true)
    (a13 : PySem.W.nsIn K mainGlobals "_law_kinds" = some (some (.ref f13)))
    (l13 : K.lookup f13 = some ⟨oc13, od13, .func (PySem.W.fnOf "_law_kinds" "_law_kinds" (defArgs s_kinds) (defBody s_kinds) (defScope s_kinds) .none kV13 dc13 pm13 an13 cd13 ct13), sl13⟩) (c13 : PySem.W.codeIn K cd13 "_law_kinds" = true) (k13 : PySem.W.keepIn K (.ref f13) = true)
    (a14 : PySem.W.nsIn K mainGlobals "_law_are" = some (some (.ref f14)))
    (l14 : K.lookup f14 = some ⟨oc14, od14, .func (PySem.W.fnOf "_law_are" "_law_are" (defArgs s_are) (defBody s_are) (defScope s_are) .none kV14 dc14 pm14 an14 cd14 ct14), sl14⟩) (c14 : PySem.W.codeIn K cd14 "_law_are" = true) (k14 : PySem.W.keepIn K (.ref f14) = true)
    (a15 : PySem.W.nsIn K mainGlobals "_law_number" = some (some (.ref f15)))
    (l15 : K.lookup f15 = some ⟨oc15, od15, .func (PySem.W.fnOf "_law_number" "_law_number" (defArgs s_number) (defBody s_number) (defScope s_number) .none kV15 dc15 pm15 an15 cd15 ct15), sl15⟩) (c15 : PySem.W.codeIn K cd15 "_law_number" = true) (k15 : PySem.W.keepIn K (.ref f15) = true)
    (a16 : PySem.W.nsIn K mainGlobals "_law_beyond" = some (some (.ref f16)))
    (l16 : K.lookup f16 = some ⟨oc16, od16, .func (PySem.W.fnOf "_law_beyond" "_law_beyond" (defArgs s_beyond) (defBody s_beyond) (defScope s_beyond) .none kV16 dc16 pm16 an16 cd16 ct16), sl16⟩) (c16 : PySem.W.codeIn K cd16 "_law_beyond" = true) (k16 : PySem.W.keepIn K (.ref f16) = true)
    (a17 : PySem.W.nsIn K mainGlobals "_law_refused" = some (some (.ref f17)))
    (l17 : K.lookup f17 = some ⟨oc17, od17, .func (PySem.W.fnOf "_law_refused" "_law_refused" (defArgs s_refused) (defBody s_refused) (defScope s_refused) .none kV17 dc17 pm17 an17 cd17 ct17), sl17⟩) (c17 : PySem.W.codeIn K cd17 "_law_refused" = true) (k17 : PySem.W.keepIn K (.ref f17) = true)
    (a18 : PySem.W.nsIn K mainGlobals "law" = some (some (.ref f18)))
    (l18 : K.lookup f18 = some ⟨oc18, od18, .func (PySem.W.fnOf "law" "law" (defArgs s_law) (defBody s_law) (defScope s_law) .none kV18 dc18 pm18 an18 cd18 ct18), sl18⟩) (c18 : PySem.W.codeIn K cd18 "law" = true) (k18 : PySem.W.keepIn K (.ref f18) = true)
    (pg_Tone : PySem.W.plainGet K C_Tone Str.empty = true)
    (ph_Tone : PySem.W.hasDictIn K C_Tone = true)
    (pp_Tone : PySem.W.plainOver K C_Tone = true)
    (ps_Tone : PySem.W.findIn K (.ref C_Tone) "__setattr__" = some (some (.builtin "object.__setattr__")))
    (pn_Tone_inner : PySem.W.findIn K (.ref C_Tone) "inner" = some none)
    (pn_Tone_long : PySem.W.findIn K (.ref C_Tone) "long" = some none)
    (pn_Tone_written : PySem.W.findIn K (.ref C_Tone) "written" = some none)
    (pn_Tone_held : PySem.W.findIn K (.ref C_Tone) "held" = some none)
    (pn_Tone_deep : PySem.W.findIn K (.ref C_Tone) "deep" = some none)
    (pn_Tone_low : PySem.W.findIn K (.ref C_Tone) "low" = some none)
    (pn_Tone_high : PySem.W.findIn K (.ref C_Tone) "high" = some none)
    (pn_Tone_pitch : PySem.W.findIn K (.ref C_Tone) "pitch" = some none)
    (pn_Tone_many : PySem.W.findIn K (.ref C_Tone) "many" = some none)
    (pn_Tone_by : PySem.W.findIn K (.ref C_Tone) "by" = some none)
    (pm_Tone_cells : PySem.W.findIn K (.ref C_Tone) "cells" = some (some (.ref f1)))
    (pm_Tone_depth : PySem.W.findIn K (.ref C_Tone) "depth" = some (some (.ref f4)))
    (pm_Tone_highest : PySem.W.findIn K (.ref C_Tone) "highest" = some (some (.ref f6)))
    (pm_Tone_leaves : PySem.W.findIn K (.ref C_Tone) "leaves" = some (some (.ref f2)))
    (pm_Tone_lowest : PySem.W.findIn K (.ref C_Tone) "lowest" = some (some (.ref f5)))
    (pm_Tone_size : PySem.W.findIn K (.ref C_Tone) "size" = some (some (.ref f3)))
    (pm_Tone_words : PySem.W.findIn K (.ref C_Tone) "words" = some (some (.ref f10)))
    (pg_Rest : PySem.W.plainGet K C_Rest Str.empty = true)
    (ph_Rest : PySem.W.hasDictIn K C_Rest = true)
    (pp_Rest : PySem.W.plainOver K C_Rest = true)
    (ps_Rest : PySem.W.findIn K (.ref C_Rest) "__setattr__" = some (some (.builtin "object.__setattr__")))
    (pn_Rest_inner : PySem.W.findIn K (.ref C_Rest) "inner" = some none)
    (pn_Rest_long : PySem.W.findIn K (.ref C_Rest) "long" = some none)
    (pn_Rest_written : PySem.W.findIn K (.ref C_Rest) "written" = some none)
    (pn_Rest_held : PySem.W.findIn K (.ref C_Rest) "held" = some none)
    (pn_Rest_deep : PySem.W.findIn K (.ref C_Rest) "deep" = some none)
    (pn_Rest_low : PySem.W.findIn K (.ref C_Rest) "low" = some none)
    (pn_Rest_high : PySem.W.findIn K (.ref C_Rest) "high" = some none)
    (pn_Rest_pitch : PySem.W.findIn K (.ref C_Rest) "pitch" = some none)
    (pn_Rest_many : PySem.W.findIn K (.ref C_Rest) "many" = some none)
    (pn_Rest_by : PySem.W.findIn K (.ref C_Rest) "by" = some none)
    (pm_Rest_cells : PySem.W.findIn K (.ref C_Rest) "cells" = some (some (.ref f1)))
    (pm_Rest_depth : PySem.W.findIn K (.ref C_Rest) "depth" = some (some (.ref f4)))
    (pm_Rest_highest : PySem.W.findIn K (.ref C_Rest) "highest" = some (some (.ref f6)))
    (pm_Rest_leaves : PySem.W.findIn K (.ref C_Rest) "leaves" = some (some (.ref f2)))
    (pm_Rest_lowest : PySem.W.findIn K (.ref C_Rest) "lowest" = some (some (.ref f5)))
    (pm_Rest_size : PySem.W.findIn K (.ref C_Rest) "size" = some (some (.ref f3)))
    (pm_Rest_words : PySem.W.findIn K (.ref C_Rest) "words" = some (some (.ref f11)))
    (pf_Part_cells : PySem.W.isFn K (.ref f1) = true)
    (pf_Part_leaves : PySem.W.isFn K (.ref f2) = true)
    (pf_Part_size : PySem.W.isFn K (.ref f3) = true)
    (pf_Part_depth : PySem.W.isFn K (.ref f4) = true)
    (pf_Part_lowest : PySem.W.isFn K (.ref f5) = true)
    (pf_Part_highest : PySem.W.isFn K (.ref f6) = true)
    (pf_Part_init : PySem.W.isFn K (.ref f7) = true)
    (pf_Tone_init : PySem.W.isFn K (.ref f8) = true)
    (pf_Rest_init : PySem.W.isFn K (.ref f9) = true)
    (pf_Tone_words : PySem.W.isFn K (.ref f10) = true)
    (pf_Rest_words : PySem.W.isFn K (.ref f11) = true)
    (pw_Rest : PySem.W.makesIn K C_Rest = true)
    (pk_Rest : PySem.W.keepIn K (.ref C_Rest) = true)
    (pw_Tone : PySem.W.makesIn K C_Tone = true)
    (pk_Tone : PySem.W.keepIn K (.ref C_Tone) = true)
    (bs_ : PySem.W.specialIn K (.ref C_Part) "__getattribute__" = some (some (.builtin "type.__getattribute__")))
    (br_ : PySem.W.readsIn K C_Part (.type "type") = true)
    (bf_ : PySem.W.findCls K (.ref C_Part) (.type "type") "__init__" = some (.val (.ref f7)))
    {C_WorksError : Addr} (ac_WorksError : PySem.W.nsIn K mainGlobals "WorksError" = some (some (.ref C_WorksError)))
    (ec_WorksError : PySem.W.subIn K (.ref C_WorksError) (.type "BaseException") = some true) (tc_WorksError : PySem.W.typeIn K (.ref C_WorksError) = some (.type "type")) (ic_WorksError : PySem.W.isClsIn K C_WorksError = true)
    (sp_WorksError : PySem.W.specialIn K (.ref C_WorksError) "__getattribute__" = some (some (.builtin "type.__getattribute__"))) (rd_WorksError : PySem.W.readsIn K C_WorksError (.type "type") = true) (fd_WorksError : PySem.W.findCls K (.ref C_WorksError) (.type "type") "__init__" = some (.val (.builtin "ValueError.__init__")))
    {C_NoPart : Addr} (ac_NoPart : PySem.W.nsIn K mainGlobals "NoPart" = some (some (.ref C_NoPart)))
    (ec_NoPart : PySem.W.subIn K (.ref C_NoPart) (.type "BaseException") = some true) (tc_NoPart : PySem.W.typeIn K (.ref C_NoPart) = some (.type "type")) (ic_NoPart : PySem.W.isClsIn K C_NoPart = true)
    {C_NoText : Addr} (ac_NoText : PySem.W.nsIn K mainGlobals "NoText" = some (some (.ref C_NoText)))
    (ec_NoText : PySem.W.subIn K (.ref C_NoText) (.type "BaseException") = some true) (tc_NoText : PySem.W.typeIn K (.ref C_NoText) = some (.type "type")) (ic_NoText : PySem.W.isClsIn K C_NoText = true)
    {C_Near : Addr} (ac_Near : PySem.W.nsIn K mainGlobals "Near" = some (some (.ref C_Near)))
    {fi_Near : Addr} {nm_Near q_Near : Str} {N_Near : Addr} {bs_Near : List Value} {sn_Near : List Str} {su_Near : List Value} {ab_Near : Bool} {co_Near : Option Bool} {dd_Near : Option Addr} {m0_Near m1_Near m2_Near m3_Near m5_Near : Option Value}
    (xl_Near : K.lookup C_Near = some (excClassObj nm_Near q_Near C_Near N_Near bs_Near [.ref C_WorksError, .type "ValueError", .type "Exception", .type "BaseException", .type "object"] true sn_Near su_Near ab_Near co_Near dd_Near m0_Near m1_Near m2_Near m3_Near m5_Near "ValueError.__new__"))
    (sa_Near : PySem.W.findIn K (.ref C_Near) "__setattr__" = some (some (.builtin "object.__setattr__")))
    (kc_Near : PySem.W.keepIn K (.ref C_Near) = true)
    (ai_Near : PySem.W.findIn K (.ref C_Near) "__init__" = some (some (.ref fi_Near))) (ti_Near : PySem.W.typeIn K (.ref fi_Near) = some (.type "function"))
    {odi_Near ani_Near : Option Addr} {sli_Near : Array (Option Value)} {oci_Near kVi_Near dci_Near pmi_Near cdi_Near cti_Near : Value}
    (li_Near : K.lookup fi_Near = some ⟨oci_Near, odi_Near, .func (PySem.W.fnOf "__init__" "Near.__init__" (defArgs s_Near_init) (defBody s_Near_init) (defScope s_Near_init) .none kVi_Near dci_Near pmi_Near ani_Near cdi_Near cti_Near), sli_Near⟩) (ci_Near : PySem.W.codeIn K cdi_Near "Near.__init__" = true) (ki_Near : PySem.W.keepIn K (.ref fi_Near) = true)
    (no_Near_one : PySem.W.findIn K (.ref C_Near) "one" = some none)
    (no_Near_other : PySem.W.findIn K (.ref C_Near) "other" = some none)
    (ec_Near : PySem.W.subIn K (.ref C_Near) (.type "BaseException") = some true) (tc_Near : PySem.W.typeIn K (.ref C_Near) = some (.type "type")) (ic_Near : PySem.W.isClsIn K C_Near = true)
    {C_NoSeam : Addr} (ac_NoSeam : PySem.W.nsIn K mainGlobals "NoSeam" = some (some (.ref C_NoSeam)))
    {fi_NoSeam : Addr} {nm_NoSeam q_NoSeam : Str} {N_NoSeam : Addr} {bs_NoSeam : List Value} {sn_NoSeam : List Str} {su_NoSeam : List Value} {ab_NoSeam : Bool} {co_NoSeam : Option Bool} {dd_NoSeam : Option Addr} {m0_NoSeam m1_NoSeam m2_NoSeam m3_NoSeam m5_NoSeam : Option Value}
    (xl_NoSeam : K.lookup C_NoSeam = some (excClassObj nm_NoSeam q_NoSeam C_NoSeam N_NoSeam bs_NoSeam [.ref C_WorksError, .type "ValueError", .type "Exception", .type "BaseException", .type "object"] true sn_NoSeam su_NoSeam ab_NoSeam co_NoSeam dd_NoSeam m0_NoSeam m1_NoSeam m2_NoSeam m3_NoSeam m5_NoSeam "ValueError.__new__"))
    (sa_NoSeam : PySem.W.findIn K (.ref C_NoSeam) "__setattr__" = some (some (.builtin "object.__setattr__")))
    (kc_NoSeam : PySem.W.keepIn K (.ref C_NoSeam) = true)
    (ai_NoSeam : PySem.W.findIn K (.ref C_NoSeam) "__init__" = some (some (.ref fi_NoSeam))) (ti_NoSeam : PySem.W.typeIn K (.ref fi_NoSeam) = some (.type "function"))
    {odi_NoSeam ani_NoSeam : Option Addr} {sli_NoSeam : Array (Option Value)} {oci_NoSeam kVi_NoSeam dci_NoSeam pmi_NoSeam cdi_NoSeam cti_NoSeam : Value}
    (li_NoSeam : K.lookup fi_NoSeam = some ⟨oci_NoSeam, odi_NoSeam, .func (PySem.W.fnOf "__init__" "NoSeam.__init__" (defArgs s_NoSeam_init) (defBody s_NoSeam_init) (defScope s_NoSeam_init) .none kVi_NoSeam dci_NoSeam pmi_NoSeam ani_NoSeam cdi_NoSeam cti_NoSeam), sli_NoSeam⟩) (ci_NoSeam : PySem.W.codeIn K cdi_NoSeam "NoSeam.__init__" = true) (ki_NoSeam : PySem.W.keepIn K (.ref fi_NoSeam) = true)
    (no_NoSeam_start : PySem.W.findIn K (.ref C_NoSeam) "start" = some none)
    (no_NoSeam_over : PySem.W.findIn K (.ref C_NoSeam) "over" = some none)
    (ec_NoSeam : PySem.W.subIn K (.ref C_NoSeam) (.type "BaseException") = some true) (tc_NoSeam : PySem.W.typeIn K (.ref C_NoSeam) = some (.type "type")) (ic_NoSeam : PySem.W.isClsIn K C_NoSeam = true)
    {C_NoBarrel : Addr} (ac_NoBarrel : PySem.W.nsIn K mainGlobals "NoBarrel" = some (some (.ref C_NoBarrel)))
    (ec_NoBarrel : PySem.W.subIn K (.ref C_NoBarrel) (.type "BaseException") = some true) (tc_NoBarrel : PySem.W.typeIn K (.ref C_NoBarrel) = some (.type "type")) (ic_NoBarrel : PySem.W.isClsIn K C_NoBarrel = true)
    {C_NoName : Addr} (ac_NoName : PySem.W.nsIn K mainGlobals "NoName" = some (some (.ref C_NoName)))
    (ec_NoName : PySem.W.subIn K (.ref C_NoName) (.type "BaseException") = some true) (tc_NoName : PySem.W.typeIn K (.ref C_NoName) = some (.type "type")) (ic_NoName : PySem.W.isClsIn K C_NoName = true)
    {C_NoSense : Addr} (ac_NoSense : PySem.W.nsIn K mainGlobals "NoSense" = some (some (.ref C_NoSense)))
    {fi_NoSense : Addr} {nm_NoSense q_NoSense : Str} {N_NoSense : Addr} {bs_NoSense : List Value} {sn_NoSense : List Str} {su_NoSense : List Value} {ab_NoSense : Bool} {co_NoSense : Option Bool} {dd_NoSense : Option Addr} {m0_NoSense m1_NoSense m2_NoSense m3_NoSense m5_NoSense : Option Value}
    (xl_NoSense : K.lookup C_NoSense = some (excClassObj nm_NoSense q_NoSense C_NoSense N_NoSense bs_NoSense [.ref C_WorksError, .type "ValueError", .type "Exception", .type "BaseException", .type "object"] true sn_NoSense su_NoSense ab_NoSense co_NoSense dd_NoSense m0_NoSense m1_NoSense m2_NoSense m3_NoSense m5_NoSense "ValueError.__new__"))
    (sa_NoSense : PySem.W.findIn K (.ref C_NoSense) "__setattr__" = some (some (.builtin "object.__setattr__")))
    (kc_NoSense : PySem.W.keepIn K (.ref C_NoSense) = true)
    (ai_NoSense : PySem.W.findIn K (.ref C_NoSense) "__init__" = some (some (.ref fi_NoSense))) (ti_NoSense : PySem.W.typeIn K (.ref fi_NoSense) = some (.type "function"))
    {odi_NoSense ani_NoSense : Option Addr} {sli_NoSense : Array (Option Value)} {oci_NoSense kVi_NoSense dci_NoSense pmi_NoSense cdi_NoSense cti_NoSense : Value}
    (li_NoSense : K.lookup fi_NoSense = some ⟨oci_NoSense, odi_NoSense, .func (PySem.W.fnOf "__init__" "NoSense.__init__" (defArgs s_NoSense_init) (defBody s_NoSense_init) (defScope s_NoSense_init) .none kVi_NoSense dci_NoSense pmi_NoSense ani_NoSense cdi_NoSense cti_NoSense), sli_NoSense⟩) (ci_NoSense : PySem.W.codeIn K cdi_NoSense "NoSense.__init__" = true) (ki_NoSense : PySem.W.keepIn K (.ref fi_NoSense) = true)
    (no_NoSense_place : PySem.W.findIn K (.ref C_NoSense) "place" = some none)
    (ec_NoSense : PySem.W.subIn K (.ref C_NoSense) (.type "BaseException") = some true) (tc_NoSense : PySem.W.typeIn K (.ref C_NoSense) = some (.type "type")) (ic_NoSense : PySem.W.isClsIn K C_NoSense = true)
    {C_NoRow : Addr} (ac_NoRow : PySem.W.nsIn K mainGlobals "NoRow" = some (some (.ref C_NoRow)))
    (ec_NoRow : PySem.W.subIn K (.ref C_NoRow) (.type "BaseException") = some true) (tc_NoRow : PySem.W.typeIn K (.ref C_NoRow) = some (.type "type")) (ic_NoRow : PySem.W.isClsIn K C_NoRow = true)
    (xi_NoPart : PySem.W.excIn K C_NoPart [.type "ValueError", .type "Exception", .type "BaseException", .type "object"] "ValueError.__new__" = true)
    (kq_NoPart : PySem.W.keepIn K (.ref C_NoPart) = true)
    (h1_NoPart : PySem.W.findIn K (.ref C_NoPart) "__getattribute__" = some (some (.builtin "BaseException.__getattribute__")))
    (h2_NoPart : PySem.W.findIn K (.ref C_NoPart) "__getattr__" = some none)
    (h4_NoPart : PySem.W.hasDictIn K C_NoPart = true)
    (h5_NoPart : PySem.W.findIn K (.ref C_NoPart) "__class__" = some (some (.builtin "object.__class__")))
    (h8_NoPart : PySem.W.mroIn K C_NoPart (.type "object") = some true)
    (h6_ : PySem.W.specialIn K (.builtin "object.__class__") "__get__" = some (some (.builtin "getset_descriptor.__get__")))
    (h7_ : PySem.W.takesIn K (.builtin "object.__class__") = some true)
    (ks_NoPart_Near : PySem.W.subIn K (.ref C_NoPart) (.ref C_Near) = some false)
    (kn_NoPart_Near : C_NoPart ≠ C_Near)
    (ks_NoPart_NoBarrel : PySem.W.subIn K (.ref C_NoPart) (.ref C_NoBarrel) = some false)
    (kn_NoPart_NoBarrel : C_NoPart ≠ C_NoBarrel)
    (ks_NoPart_NoName : PySem.W.subIn K (.ref C_NoPart) (.ref C_NoName) = some false)
    (kn_NoPart_NoName : C_NoPart ≠ C_NoName)
    (ks_NoPart_NoRow : PySem.W.subIn K (.ref C_NoPart) (.ref C_NoRow) = some false)
    (kn_NoPart_NoRow : C_NoPart ≠ C_NoRow)
    (ks_NoPart_NoSeam : PySem.W.subIn K (.ref C_NoPart) (.ref C_NoSeam) = some false)
    (kn_NoPart_NoSeam : C_NoPart ≠ C_NoSeam)
    (ks_NoPart_NoSense : PySem.W.subIn K (.ref C_NoPart) (.ref C_NoSense) = some false)
    (kn_NoPart_NoSense : C_NoPart ≠ C_NoSense)
    (ks_NoPart_NoText : PySem.W.subIn K (.ref C_NoPart) (.ref C_NoText) = some false)
    (kn_NoPart_NoText : C_NoPart ≠ C_NoText)
    (ks_NoPart_ValueError : PySem.W.subIn K (.ref C_NoPart) (.type "ValueError") = some true)
    (ks_NoPart_WorksError : PySem.W.subIn K (.ref C_NoPart) (.ref C_WorksError) = some true)
    (xs_NoPart_NoPart : PySem.W.subIn K (.ref C_NoPart) (.ref C_NoPart) = some true)
    (z_ValueError : PySem.W.nsIn K mainGlobals "ValueError" = some none)
    (z_bool : PySem.W.nsIn K mainGlobals "bool" = some none)
    (z_int : PySem.W.nsIn K mainGlobals "int" = some none)
    (z_isinstance : PySem.W.nsIn K mainGlobals "isinstance" = some none)
    (z_list : PySem.W.nsIn K mainGlobals "list" = some none)
    (z_max : PySem.W.nsIn K mainGlobals "max" = some none)
    (z_min : PySem.W.nsIn K mainGlobals "min" = some none)
    (z_range : PySem.W.nsIn K mainGlobals "range" = some none)
    (z_str : PySem.W.nsIn K mainGlobals "str" = some none)
    (z_sum : PySem.W.nsIn K mainGlobals "sum" = some none)
    {t_MOST_CELLS : Tok} (y_MOST_CELLS : PySem.W.nsIn K mainGlobals "MOST_CELLS" = some (some (.int 2000 t_MOST_CELLS)))
    {t_MOST_LEAVES : Tok} (y_MOST_LEAVES : PySem.W.nsIn K mainGlobals "MOST_LEAVES" = some (some (.int 900 t_MOST_LEAVES)))
    {t_MOST_SIZE : Tok} (y_MOST_SIZE : PySem.W.nsIn K mainGlobals "MOST_SIZE" = some (some (.int 1500 t_MOST_SIZE)))
    {t_MOST_DEPTH : Tok} (y_MOST_DEPTH : PySem.W.nsIn K mainGlobals "MOST_DEPTH" = some (some (.int 12 t_MOST_DEPTH)))
    {t_HIGHEST : Tok} (y_HIGHEST : PySem.W.nsIn K mainGlobals "HIGHEST" = some (some (.int 127 t_HIGHEST)))
    : ∃ fd : FuncData, (∀ (s : Shared) (v : Value), BindsTo s fd ⟨[v], []⟩ [("_law_script", v)]) ∧ ∀ base : Heap, K.In base → base.Ns mainGlobals mg → FnOk l.prog w K mg base CX0 7 fa fd ["_law_script"] (spLaw K) := by
  have e := hfa.symm.trans (PySem.W.mg_of X G a18)
  cases e
  have F0 := fun_mk (st := s_look_at) l0 c0 k0
  have b0 := F0.binds (ps := ["number", "least", "greatest"]) fun _ _ _ _ _ _ us hl => match us, hl with | [_, _, _], _ => rfl
  have F1 := fun_mk (st := s_Part_cells) l1 c1 k1
  have b1 := F1.binds (ps := ["self"]) fun _ _ _ _ _ _ us hl => match us, hl with | [_], _ => rfl
  have F2 := fun_mk (st := s_Part_leaves) l2 c2 k2
  have b2 := F2.binds (ps := ["self"]) fun _ _ _ _ _ _ us hl => match us, hl with | [_], _ => rfl
  have F3 := fun_mk (st := s_Part_size) l3 c3 k3
  have b3 := F3.binds (ps := ["self"]) fun _ _ _ _ _ _ us hl => match us, hl with | [_], _ => rfl
  have F4 := fun_mk (st := s_Part_depth) l4 c4 k4
  have b4 := F4.binds (ps := ["self"]) fun _ _ _ _ _ _ us hl => match us, hl with | [_], _ => rfl
  have F5 := fun_mk (st := s_Part_lowest) l5 c5 k5
  have b5 := F5.binds (ps := ["self"]) fun _ _ _ _ _ _ us hl => match us, hl with | [_], _ => rfl
  have F6 := fun_mk (st := s_Part_highest) l6 c6 k6
  have b6 := F6.binds (ps := ["self"]) fun _ _ _ _ _ _ us hl => match us, hl with | [_], _ => rfl
  have F7 := fun_mk (st := s_Part_init) l7 c7 k7
  have b7 := F7.binds (ps := ["self", "inner", "long", "written"]) fun _ _ _ _ _ _ us hl => match us, hl with | [_, _, _, _], _ => rfl
  have F8 := fun_mk (st := s_Tone_init) l8 c8 k8
  have b8 := F8.binds (ps := ["self", "pitch", "cells"]) fun _ _ _ _ _ _ us hl => match us, hl with | [_, _, _], _ => rfl
  have F9 := fun_mk (st := s_Rest_init) l9 c9 k9
  have b9 := F9.binds (ps := ["self", "cells"]) fun _ _ _ _ _ _ us hl => match us, hl with | [_, _], _ => rfl
  have F10 := fun_mk (st := s_Tone_words) l10 c10 k10
  have b10 := F10.binds (ps := ["self"]) fun _ _ _ _ _ _ us hl => match us, hl with | [_], _ => rfl
  have F11 := fun_mk (st := s_Rest_words) l11 c11 k11
  have b11 := F11.binds (ps := ["self"]) fun _ _ _ _ _ _ us hl => match us, hl with | [_], _ => rfl
  have F12 := fun_mk (st := s_whole) l12 c12 k12
  have b12 := F12.binds (ps := ["_law_found"]) fun _ _ _ _ _ _ us hl => match us, hl with | [_], _ => rfl
  have F13 := fun_mk (st := s_kinds) l13 c13 k13
  have b13 := F13.binds (ps := ["_law_e"]) fun _ _ _ _ _ _ us hl => match us, hl with | [_], _ => rfl
  have F14 := fun_mk (st := s_are) l14 c14 k14
  have b14 := F14.binds (ps := ["_law_part", "_law_due"]) fun _ _ _ _ _ _ us hl => match us, hl with | [_, _], _ => rfl
  have F15 := fun_mk (st := s_number) l15 c15 k15
  have b15 := F15.binds (ps := ["_law_cell", "_law_least", "_law_greatest"]) fun _ _ _ _ _ _ us hl => match us, hl with | [_, _, _], _ => rfl
  have F16 := fun_mk (st := s_beyond) l16 c16 k16
  have b16 := F16.binds (ps := ["_law_cell", "_law_least", "_law_greatest"]) fun _ _ _ _ _ _ us hl => match us, hl with | [_, _, _], _ => rfl
  have F17 := fun_mk (st := s_refused) l17 c17 k17
  have b17 := F17.binds (ps := ["_law_pitch", "_law_cells"]) fun _ _ _ _ _ _ us hl => match us, hl with | [_, _], _ => rfl
  have F18 := fun_mk (st := s_law) l18 c18 k18
  have b18 := F18.binds (ps := ["_law_script"]) fun _ _ _ _ _ _ us hl => match us, hl with | [_], _ => rfl
  have FI_Near := fun_mk (st := s_Near_init) li_Near ci_Near ki_Near
  have bI_Near := FI_Near.binds (ps := ["self", "one", "other"]) fun _ _ _ _ _ _ us hl => match us, hl with | [_, _, _], _ => rfl
  have FI_NoSeam := fun_mk (st := s_NoSeam_init) li_NoSeam ci_NoSeam ki_NoSeam
  have bI_NoSeam := FI_NoSeam.binds (ps := ["self", "start", "over"]) fun _ _ _ _ _ _ us hl => match us, hl with | [_, _, _], _ => rfl
  have FI_NoSense := fun_mk (st := s_NoSense_init) li_NoSense ci_NoSense ki_NoSense
  have bI_NoSense := FI_NoSense.binds (ps := ["self", "place"]) fun _ _ _ _ _ _ us hl => match us, hl with | [_, _], _ => rfl
  have T : Txt K mg ⟨C_WorksError, C_NoPart, C_NoText, _, _, _, _, _, _, C_NoBarrel, C_NoName, _, _, _, C_NoRow, C_Part, C_Tone, C_Rest, _, _, _, _, _, _, _, _, _, _, _, _, _, _, _, _, _, _, _, _, _, _, _, _, _, _, _, _, _, _, _, _, _, _, _, _, _, _⟩ := ⟨F0, PySem.W.mg_of X G a0, b0, F1, b1, F2, b2, F3, b3, F4, b4, F5, b5, F6, b6, F7, b7, F8, b8, F9, b9, F10, b10, F11, b11, F12, PySem.W.mg_of X G a12, b12, F13, PySem.W.mg_of X G a13, b13, F14, PySem.W.mg_of X G a14, b14, F15, PySem.W.mg_of X G a15, b15, F16, PySem.W.mg_of X G a16, b16, F17, PySem.W.mg_of X G a17, b17, F18, PySem.W.mg_of X G a18, b18, PySem.W.mg_of X G ac_WorksError, PySem.W.mg_of X G ac_NoPart, PySem.W.mg_of X G ac_NoText, PySem.W.mg_of X G ac_Near, ⟨⟨_, _, _, _, _, _, _, _, _, _, _, _, _, _, _, xl_Near, rfl⟩, sa_Near, ec_Near, tc_Near, kc_Near⟩, ai_Near, ti_Near, FI_Near, bI_Near, no_Near_one, no_Near_other, ⟨sp_WorksError, rd_WorksError, fd_WorksError⟩, PySem.W.mg_of X G ac_NoSeam, ⟨⟨_, _, _, _, _, _, _, _, _, _, _, _, _, _, _, xl_NoSeam, rfl⟩, sa_NoSeam, ec_NoSeam, tc_NoSeam, kc_NoSeam⟩, ai_NoSeam, ti_NoSeam, FI_NoSeam, bI_NoSeam, no_NoSeam_start, no_NoSeam_over, ⟨sp_WorksError, rd_WorksError, fd_WorksError⟩, PySem.W.mg_of X G ac_NoBarrel, PySem.W.mg_of X G ac_NoName, PySem.W.mg_of X G ac_NoSense, ⟨⟨_, _, _, _, _, _, _, _, _, _, _, _, _, _, _, xl_NoSense, rfl⟩, sa_NoSense, ec_NoSense, tc_NoSense, kc_NoSense⟩, ai_NoSense, ti_NoSense, FI_NoSense, bI_NoSense, no_NoSense_place, ⟨sp_WorksError, rd_WorksError, fd_WorksError⟩, PySem.W.mg_of X G ac_NoRow, ⟨(fun k => match k with | .tone => ⟨pg_Tone, ph_Tone, pp_Tone, ps_Tone⟩ | .rest => ⟨pg_Rest, ph_Rest, pp_Rest, ps_Rest⟩ | .row => ⟨pg_Tone, ph_Tone, pp_Tone, ps_Tone⟩ | .rep => ⟨pg_Tone, ph_Tone, pp_Tone, ps_Tone⟩ | .shift => ⟨pg_Tone, ph_Tone, pp_Tone, ps_Tone⟩ | .stretch => ⟨pg_Tone, ph_Tone, pp_Tone, ps_Tone⟩ | .beside => ⟨pg_Tone, ph_Tone, pp_Tone, ps_Tone⟩), fun k f hf => by /-pcls-/ (cases k <;> (simp only [partNames, List.mem_cons, List.mem_nil_iff, or_false] at hf; rcases hf with rfl | rfl | rfl | rfl | rfl | rfl | rfl | rfl | rfl | rfl <;> assumption))⟩, (fun k => match k with | .tone => ⟨pm_Tone_cells, pf_Part_cells, k1⟩ | .rest => ⟨pm_Rest_cells, pf_Part_cells, k1⟩ | .row => ⟨pm_Tone_cells, pf_Part_cells, k1⟩ | .rep => ⟨pm_Tone_cells, pf_Part_cells, k1⟩ | .shift => ⟨pm_Tone_cells, pf_Part_cells, k1⟩ | .stretch => ⟨pm_Tone_cells, pf_Part_cells, k1⟩ | .beside => ⟨pm_Tone_cells, pf_Part_cells, k1⟩), (fun k => match k with | .tone => ⟨pm_Tone_depth, pf_Part_depth, k4⟩ | .rest => ⟨pm_Rest_depth, pf_Part_depth, k4⟩ | .row => ⟨pm_Tone_depth, pf_Part_depth, k4⟩ | .rep => ⟨pm_Tone_depth, pf_Part_depth, k4⟩ | .shift => ⟨pm_Tone_depth, pf_Part_depth, k4⟩ | .stretch => ⟨pm_Tone_depth, pf_Part_depth, k4⟩ | .beside => ⟨pm_Tone_depth, pf_Part_depth, k4⟩), (fun k => match k with | .tone => ⟨pm_Tone_highest, pf_Part_highest, k6⟩ | .rest => ⟨pm_Rest_highest, pf_Part_highest, k6⟩ | .row => ⟨pm_Tone_highest, pf_Part_highest, k6⟩ | .rep => ⟨pm_Tone_highest, pf_Part_highest, k6⟩ | .shift => ⟨pm_Tone_highest, pf_Part_highest, k6⟩ | .stretch => ⟨pm_Tone_highest, pf_Part_highest, k6⟩ | .beside => ⟨pm_Tone_highest, pf_Part_highest, k6⟩), (fun k => match k with | .tone => ⟨pm_Tone_leaves, pf_Part_leaves, k2⟩ | .rest => ⟨pm_Rest_leaves, pf_Part_leaves, k2⟩ | .row => ⟨pm_Tone_leaves, pf_Part_leaves, k2⟩ | .rep => ⟨pm_Tone_leaves, pf_Part_leaves, k2⟩ | .shift => ⟨pm_Tone_leaves, pf_Part_leaves, k2⟩ | .stretch => ⟨pm_Tone_leaves, pf_Part_leaves, k2⟩ | .beside => ⟨pm_Tone_leaves, pf_Part_leaves, k2⟩), (fun k => match k with | .tone => ⟨pm_Tone_lowest, pf_Part_lowest, k5⟩ | .rest => ⟨pm_Rest_lowest, pf_Part_lowest, k5⟩ | .row => ⟨pm_Tone_lowest, pf_Part_lowest, k5⟩ | .rep => ⟨pm_Tone_lowest, pf_Part_lowest, k5⟩ | .shift => ⟨pm_Tone_lowest, pf_Part_lowest, k5⟩ | .stretch => ⟨pm_Tone_lowest, pf_Part_lowest, k5⟩ | .beside => ⟨pm_Tone_lowest, pf_Part_lowest, k5⟩), (fun k => match k with | .tone => ⟨pm_Tone_size, pf_Part_size, k3⟩ | .rest => ⟨pm_Rest_size, pf_Part_size, k3⟩ | .row => ⟨pm_Tone_size, pf_Part_size, k3⟩ | .rep => ⟨pm_Tone_size, pf_Part_size, k3⟩ | .shift => ⟨pm_Tone_size, pf_Part_size, k3⟩ | .stretch => ⟨pm_Tone_size, pf_Part_size, k3⟩ | .beside => ⟨pm_Tone_size, pf_Part_size, k3⟩), (fun k => match k with | .tone => ⟨pm_Tone_words, pf_Tone_words, k10⟩ | .rest => ⟨pm_Rest_words, pf_Rest_words, k11⟩ | .row => ⟨pm_Tone_words, pf_Tone_words, k10⟩ | .rep => ⟨pm_Tone_words, pf_Tone_words, k10⟩ | .shift => ⟨pm_Tone_words, pf_Tone_words, k10⟩ | .stretch => ⟨pm_Tone_words, pf_Tone_words, k10⟩ | .beside => ⟨pm_Tone_words, pf_Tone_words, k10⟩), PySem.W.mg_of X G ac_Part, PySem.W.mg_of X G ac_Rest, PySem.W.mg_of X G ac_Tone, ⟨pw_Rest, a9, pf_Rest_init, pk_Rest⟩, ⟨pw_Tone, a8, pf_Tone_init, pk_Tone⟩, ⟨bs_, br_, bf_, k7⟩, xi_NoPart, kq_NoPart, ec_NoPart, tc_NoPart, ⟨h1_NoPart, h2_NoPart, ec_NoPart, h4_NoPart, h5_NoPart, h6_, h7_, h8_NoPart⟩, (kit_own ic_Near tc_Near ks_NoPart_Near (fun _ => kn_NoPart_Near)), (kit_own ic_NoBarrel tc_NoBarrel ks_NoPart_NoBarrel (fun _ => kn_NoPart_NoBarrel)), (kit_own ic_NoName tc_NoName ks_NoPart_NoName (fun _ => kn_NoPart_NoName)), (kit_own ic_NoRow tc_NoRow ks_NoPart_NoRow (fun _ => kn_NoPart_NoRow)), (kit_own ic_NoSeam tc_NoSeam ks_NoPart_NoSeam (fun _ => kn_NoPart_NoSeam)), (kit_own ic_NoSense tc_NoSense ks_NoPart_NoSense (fun _ => kn_NoPart_NoSense)), (kit_own ic_NoText tc_NoText ks_NoPart_NoText (fun _ => kn_NoPart_NoText)), (kit_typ (by decide +kernel) ks_NoPart_ValueError), (kit_own ic_WorksError tc_WorksError ks_NoPart_WorksError (fun z => Bool.noConfusion z)), exm_own ec_NoPart ic_NoPart tc_NoPart xs_NoPart_NoPart, PySem.W.mg_none_of X G z_ValueError, PySem.W.mg_none_of X G z_bool, PySem.W.mg_none_of X G z_int, PySem.W.mg_none_of X G z_isinstance, PySem.W.mg_none_of X G z_list, PySem.W.mg_none_of X G z_max, PySem.W.mg_none_of X G z_min, PySem.W.mg_none_of X G z_range, PySem.W.mg_none_of X G z_str, PySem.W.mg_none_of X G z_sum, ⟨_, PySem.W.mg_of X G y_MOST_CELLS⟩, ⟨_, PySem.W.mg_of X G y_MOST_LEAVES⟩, ⟨_, PySem.W.mg_of X G y_MOST_SIZE⟩, ⟨_, PySem.W.mg_of X G y_MOST_DEPTH⟩, ⟨_, PySem.W.mg_of X G y_HIGHEST⟩⟩
  exact ⟨_, fun s v => .of_eq rfl, fun base _ _ => ok_law T⟩
theorem walk {l : PySem.W.OpenLaw} {q : Program} {loose : List Str} {XP : (Str → Option Value) → Heap → Prop} {YP : World → Heap → Prop} {d : DefRec} {K : Params → PySem.W.Frag} (hn : l.most = some 63) (hdf : d.params.defaults = [])
    (hY : ∀ (w : World) (h : Heap), YP w h → (K w.params).In h)
    (F : ∀ (w : World) (mg : Str → Option Value) (fa : Addr) (h : Heap), (K w.params).In h → h.Ns mainGlobals mg → mg d.name = some (.ref fa) →
      ∃ fd : FuncData, (∀ (s : Shared) (u : Value), BindsTo s fd ⟨[u], []⟩ [("_law_script", u)]) ∧ ∀ base : Heap, (K w.params).In base → base.Ns mainGlobals mg → FnOk l.prog w (K w.params) mg base CX0 7 fa fd ["_law_script"] (spLaw (K w.params))) :
    PySem.W.WalkO q loose XP YP l.row.toRowW d [] (fun f vs => PySem.call f vs) :=
  L2.walk_of (n := 63) (k := 7) (x := "_law_script") (CX := fun _ => CX0) (sp := fun w => spLaw (K w.params)) hn (by decide) hdf ⟨rfl, by decide, by decide⟩ hY F
    (fun _ H a ns hl _ hS => ⟨H, fun _ => none, (ns, ()), ⟨_, _, rfl, ⟨a, _, rfl, hS, A2.mapI V.int ns⟩, rfl⟩, hl, ⟨Same.refl H, fun _ _ e => (nomatch e), fun _ _ e => (nomatch e), fun _ _ e => (nomatch e)⟩, fun _ _ _ _ _ h => h⟩) fun _ _ _ _ _ z => z
end Q
open PySem PySem.W PyProof.Rows in
set_option maxRecDepth 100000 in
set_option maxHeartbeats 0 in
theorem PySem.Challenge.cw_pinbarrel_k08_tones_and_rests_holds : PySem.Challenge.rw_pinbarrel_k08_tones_and_rests.Holds := by
  w_on; o_law; k_head; (case hw => w_witness2)
  k_fill
  refine Q.walk (l := PySem.Challenge.rw_pinbarrel_k08_tones_and_rests) rfl rfl (fun w h Y => PySem.W.kIn_of Y) ?F
  case F =>
    intro w mg fa h KX G hmg
    refine' Q.all_mk KX G hmg ?ac_Part ?ac_Tone ?ac_Rest ?a0 ?l0 ?c0 ?k0 ?a1 ?l1 ?c1 ?k1 ?a2 ?l2 ?c2 ?k2 ?a3 ?l3 ?c3 ?k3 ?a4 ?l4 ?c4 ?k4 ?a5 ?l5 ?c5 ?k5 ?a6 ?l6 ?c6 ?k6 ?a7 ?l7 ?c7 ?k7 ?a8 ?l8 ?c8 ?k8 ?a9 ?l9 ?c9 ?k9 ?a10 ?l10 ?c10 ?k10 ?a11 ?l11 ?c11 ?k11 ?a12 ?l12 ?c12 ?k12 ?a13 ?l13 ?c13 ?k13 ?a14 ?l14 ?c14 ?k14 ?a15 ?l15 ?c15 ?k15 ?a16 ?l16 ?c16 ?k16 ?a17 ?l17 ?c17 ?k17 ?a18 ?l18 ?c18 ?k18 ?pg_Tone ?ph_Tone ?pp_Tone ?ps_Tone ?pn_Tone_inner ?pn_Tone_long ?pn_Tone_written ?pn_Tone_held ?pn_Tone_deep ?pn_Tone_low ?pn_Tone_high ?pn_Tone_pitch ?pn_Tone_many ?pn_Tone_by ?pm_Tone_cells ?pm_Tone_depth ?pm_Tone_highest ?pm_Tone_leaves ?pm_Tone_lowest ?pm_Tone_size ?pm_Tone_words ?pg_Rest ?ph_Rest ?pp_Rest ?ps_Rest ?pn_Rest_inner ?pn_Rest_long ?pn_Rest_written ?pn_Rest_held ?pn_Rest_deep ?pn_Rest_low ?pn_Rest_high ?pn_Rest_pitch ?pn_Rest_many ?pn_Rest_by ?pm_Rest_cells ?pm_Rest_depth ?pm_Rest_highest ?pm_Rest_leaves ?pm_Rest_lowest ?pm_Rest_size ?pm_Rest_words ?pf_Part_cells ?pf_Part_leaves ?pf_Part_size ?pf_Part_depth ?pf_Part_lowest ?pf_Part_highest ?pf_Part_init ?pf_Tone_init ?pf_Rest_init ?pf_Tone_words ?pf_Rest_words ?pw_Rest ?pk_Rest ?pw_Tone ?pk_Tone ?bs_ ?br_ ?bf_ ?ac_WorksError ?ec_WorksError ?tc_WorksError ?ic_WorksError ?sp_WorksError ?rd_WorksError ?fd_WorksError ?ac_NoPart ?ec_NoPart ?tc_NoPart ?ic_NoPart ?ac_NoText ?ec_NoText ?tc_NoText ?ic_NoText ?ac_Near ?xl_Near ?sa_Near ?kc_Near ?ai_Near ?ti_Near ?li_Near ?ci_Near ?ki_Near ?no_Near_one ?no_Near_other ?ec_Near ?tc_Near ?ic_Near ?ac_NoSeam ?xl_NoSeam ?sa_NoSeam ?kc_NoSeam ?ai_NoSeam ?ti_NoSeam ?li_NoSeam ?ci_NoSeam ?ki_NoSeam ?no_NoSeam_start ?no_NoSeam_over ?ec_NoSeam ?tc_NoSeam ?ic_NoSeam ?ac_NoBarrel ?ec_NoBarrel ?tc_NoBarrel ?ic_NoBarrel ?ac_NoName ?ec_NoName ?tc_NoName ?ic_NoName ?ac_NoSense ?xl_NoSense ?sa_NoSense ?kc_NoSense ?ai_NoSense ?ti_NoSense ?li_NoSense ?ci_NoSense ?ki_NoSense ?no_NoSense_place ?ec_NoSense ?tc_NoSense ?ic_NoSense ?ac_NoRow ?ec_NoRow ?tc_NoRow ?ic_NoRow ?xi_NoPart ?kq_NoPart ?h1_NoPart ?h2_NoPart ?h4_NoPart ?h5_NoPart ?h8_NoPart ?h6_ ?h7_ ?ks_NoPart_Near ?kn_NoPart_Near ?ks_NoPart_NoBarrel ?kn_NoPart_NoBarrel ?ks_NoPart_NoName ?kn_NoPart_NoName ?ks_NoPart_NoRow ?kn_NoPart_NoRow ?ks_NoPart_NoSeam ?kn_NoPart_NoSeam ?ks_NoPart_NoSense ?kn_NoPart_NoSense ?ks_NoPart_NoText ?kn_NoPart_NoText ?ks_NoPart_ValueError ?ks_NoPart_WorksError ?xs_NoPart_NoPart ?z_ValueError ?z_bool ?z_int ?z_isinstance ?z_list ?z_max ?z_min ?z_range ?z_str ?z_sum ?y_MOST_CELLS ?y_MOST_LEAVES ?y_MOST_SIZE ?y_MOST_DEPTH ?y_HIGHEST
    (case ac_Part => k_is)
    (case ac_Tone => k_is)
    (case ac_Rest => k_is)
    (case a0 => k_is)
    (case l0 => k_is)
    (case c0 => k_is)
    (case k0 => k_is)
    (case a1 => k_is)
    (case l1 => k_is)
    (case c1 => k_is)
    (case k1 => k_is)
    (case a2 => k_is)
    (case l2 => k_is)
    (case c2 => k_is)
    (case k2 => k_is)
    (case a3 => k_is)
    (case l3 => k_is)
    (case c3 => k_is)
    (case k3 => k_is)
    (case a4 => k_is)
    (case l4 => k_is)
    (case c4 => k_is)
    (case k4 => k_is)
    (case a5 => k_is)
    (case l5 => k_is)
    (case c5 => k_is)
    (case k5 => k_is)
    (case a6 => k_is)
    (case l6 => k_is)
    (case c6 => k_is)
    (case k6 => k_is)
    (case a7 => k_is)
    (case l7 => k_is)
    (case c7 => k_is)
    (case k7 => k_is)
    (case a8 => k_is)
    (case l8 => k_is)
    (case c8 => k_is)
    (case k8 => k_is)
    (case a9 => k_is)
    (case l9 => k_is)
    (case c9 => k_is)
    (case k9 => k_is)
    (case a10 => k_is)
    (case l10 => k_is)
    (case c10 => k_is)
    (case k10 => k_is)
    (case a11 => k_is)
    (case l11 => k_is)
    (case c11 => k_is)
    (case k11 => k_is)
    (case a12 => k_is)
    (case l12 => k_is)
    (case c12 => k_is)
    (case k12 => k_is)
    (case a13 => k_is)
    (case l13 => k_is)
    (case c13 => k_is)
    (case k13 => k_is)
    (case a14 => k_is)
    (case l14 => k_is)
    (case c14 => k_is)
    (case k14 => k_is)
    (case a15 => k_is)
    (case l15 => k_is)
    (case c15 => k_is)
    (case k15 => k_is)
    (case a16 => k_is)
    (case l16 => k_is)
    (case c16 => k_is)
    (case k16 => k_is)
    (case a17 => k_is)
    (case l17 => k_is)
    (case c17 => k_is)
    (case k17 => k_is)
    (case a18 => k_is)
    (case l18 => k_is)
    (case c18 => k_is)
    (case k18 => k_is)
    (case pg_Tone => k_is)
    (case ph_Tone => k_is)
    (case pp_Tone => k_is)
    (case ps_Tone => k_is)
    (case pn_Tone_inner => k_is)
    (case pn_Tone_long => k_is)
    (case pn_Tone_written => k_is)
    (case pn_Tone_held => k_is)
    (case pn_Tone_deep => k_is)
    (case pn_Tone_low => k_is)
    (case pn_Tone_high => k_is)
    (case pn_Tone_pitch => k_is)
    (case pn_Tone_many => k_is)
    (case pn_Tone_by => k_is)
    (case pm_Tone_cells => k_is)
    (case pm_Tone_depth => k_is)
    (case pm_Tone_highest => k_is)
    (case pm_Tone_leaves => k_is)
    (case pm_Tone_lowest => k_is)
    (case pm_Tone_size => k_is)
    (case pm_Tone_words => k_is)
    (case pg_Rest => k_is)
    (case ph_Rest => k_is)
    (case pp_Rest => k_is)
    (case ps_Rest => k_is)
    (case pn_Rest_inner => k_is)
    (case pn_Rest_long => k_is)
    (case pn_Rest_written => k_is)
    (case pn_Rest_held => k_is)
    (case pn_Rest_deep => k_is)
    (case pn_Rest_low => k_is)
    (case pn_Rest_high => k_is)
    (case pn_Rest_pitch => k_is)
    (case pn_Rest_many => k_is)
    (case pn_Rest_by => k_is)
    (case pm_Rest_cells => k_is)
    (case pm_Rest_depth => k_is)
    (case pm_Rest_highest => k_is)
    (case pm_Rest_leaves => k_is)
    (case pm_Rest_lowest => k_is)
    (case pm_Rest_size => k_is)
    (case pm_Rest_words => k_is)
    (case pf_Part_cells => k_is)
    (case pf_Part_leaves => k_is)
    (case pf_Part_size => k_is)
    (case pf_Part_depth => k_is)
    (case pf_Part_lowest => k_is)
    (case pf_Part_highest => k_is)
    (case pf_Part_init => k_is)
    (case pf_Tone_init => k_is)
    (case pf_Rest_init => k_is)
    (case pf_Tone_words => k_is)
    (case pf_Rest_words => k_is)
    (case pw_Rest => k_is)
    (case pk_Rest => k_is)
    (case pw_Tone => k_is)
    (case pk_Tone => k_is)
    (case bs_ => k_is)
    (case br_ => k_is)
    (case bf_ => k_is)
    (case ac_WorksError => k_is)
    (case ec_WorksError => k_is)
    (case tc_WorksError => k_is)
    (case ic_WorksError => k_is)
    (case sp_WorksError => k_is)
    (case rd_WorksError => k_is)
    (case fd_WorksError => k_is)
    (case ac_NoPart => k_is)
    (case ec_NoPart => k_is)
    (case tc_NoPart => k_is)
    (case ic_NoPart => k_is)
    (case ac_NoText => k_is)
    (case ec_NoText => k_is)
    (case tc_NoText => k_is)
    (case ic_NoText => k_is)
    (case ac_Near => k_is)
    (case xl_Near => k_is)
    (case sa_Near => k_is)
    (case kc_Near => k_is)
    (case ai_Near => k_is)
    (case ti_Near => k_is)
    (case li_Near => k_is)
    (case ci_Near => k_is)
    (case ki_Near => k_is)
    (case no_Near_one => k_is)
    (case no_Near_other => k_is)
    (case ec_Near => k_is)
    (case tc_Near => k_is)
    (case ic_Near => k_is)
    (case ac_NoSeam => k_is)
    (case xl_NoSeam => k_is)
    (case sa_NoSeam => k_is)
    (case kc_NoSeam => k_is)
    (case ai_NoSeam => k_is)
    (case ti_NoSeam => k_is)
    (case li_NoSeam => k_is)
    (case ci_NoSeam => k_is)
    (case ki_NoSeam => k_is)
    (case no_NoSeam_start => k_is)
    (case no_NoSeam_over => k_is)
    (case ec_NoSeam => k_is)
    (case tc_NoSeam => k_is)
    (case ic_NoSeam => k_is)
    (case ac_NoBarrel => k_is)
    (case ec_NoBarrel => k_is)
    (case tc_NoBarrel => k_is)
    (case ic_NoBarrel => k_is)
    (case ac_NoName => k_is)
    (case ec_NoName => k_is)
    (case tc_NoName => k_is)
    (case ic_NoName => k_is)
    (case ac_NoSense => k_is)
    (case xl_NoSense => k_is)
    (case sa_NoSense => k_is)
    (case kc_NoSense => k_is)
    (case ai_NoSense => k_is)
    (case ti_NoSense => k_is)
    (case li_NoSense => k_is)
    (case ci_NoSense => k_is)
    (case ki_NoSense => k_is)
    (case no_NoSense_place => k_is)
    (case ec_NoSense => k_is)
    (case tc_NoSense => k_is)
    (case ic_NoSense => k_is)
    (case ac_NoRow => k_is)
    (case ec_NoRow => k_is)
    (case tc_NoRow => k_is)
    (case ic_NoRow => k_is)
    (case xi_NoPart => k_exc)
    (case kq_NoPart => k_is)
    (case h1_NoPart => k_is)
    (case h2_NoPart => k_is)
    (case h4_NoPart => k_is)
    (case h5_NoPart => k_is)
    (case h8_NoPart => k_is)
    (case h6_ => k_is)
    (case h7_ => k_is)
    (case ks_NoPart_Near => k_is)
    (case kn_NoPart_Near => decide)
    (case ks_NoPart_NoBarrel => k_is)
    (case kn_NoPart_NoBarrel => decide)
    (case ks_NoPart_NoName => k_is)
    (case kn_NoPart_NoName => decide)
    (case ks_NoPart_NoRow => k_is)
    (case kn_NoPart_NoRow => decide)
    (case ks_NoPart_NoSeam => k_is)
    (case kn_NoPart_NoSeam => decide)
    (case ks_NoPart_NoSense => k_is)
    (case kn_NoPart_NoSense => decide)
    (case ks_NoPart_NoText => k_is)
    (case kn_NoPart_NoText => decide)
    (case ks_NoPart_ValueError => k_is)
    (case ks_NoPart_WorksError => k_is)
    (case xs_NoPart_NoPart => first | rfl | k_is)
    (case z_ValueError => k_is)
    (case z_bool => k_is)
    (case z_int => k_is)
    (case z_isinstance => k_is)
    (case z_list => k_is)
    (case z_max => k_is)
    (case z_min => k_is)
    (case z_range => k_is)
    (case z_str => k_is)
    (case z_sum => k_is)
    (case y_MOST_CELLS => k_is)
    (case y_MOST_LEAVES => k_is)
    (case y_MOST_SIZE => k_is)
    (case y_MOST_DEPTH => k_is)
    (case y_HIGHEST => k_is)
