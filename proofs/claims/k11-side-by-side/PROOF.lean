import PyProof.Rows.All
import Wide.All
import OpenK.AllK
import Wide.FinOn
import HandS.ForMost
import HandS.IsInst
import HandS.SortInts
import HandS.Style
import HandS.Lambda
import HandS.NamedTupSort
import HandS.SetFor
import HandS.Strs
import HandS.SortKw
import KE.DatumOrd
import HandS.NoneIn
import HandS.WordsDict
import HandS.ExcInit
import HandS.ExcOwn
import HandS.TryOnly
import HandS.WordsExc
import HandS.Iter
import HandS.SortOrd
import HandS.Conv
import HandS.TupLen
import HandS.ExcIs
import HandS.ExcField
import HandS.HotCalls
import KE.SortKeyHeap
import KE.DataMinKey
import HandS.EndTab
import KE.KDictSum
import KE.KExcIs
import HandS.Deep
import HandS.DeepEq
import PySem.Challenge.RW_pinbarrel_k11_side_by_side
set_option synthInstance.maxSize 8192
set_option synthInstance.maxHeartbeats 0
set_option Elab.async false
set_option linter.all false
set_option maxRecDepth 100000
set_option maxHeartbeats 8000000
namespace Y
open PySem PySem.Spec PyProof.Rows L2

/-! ### canonical readings: what a piece of syntax does, as the machine has it -/
section
variable {X : Cx}
def WE (X : Cx) (e : Expr) : TE := fun σ H Q => ∀ (pins : List (Addr × Obj)) (s : Shared), Inv X pins σ H s → wpAny (model X.prog X.w) X.A (eval e X.env) (EP X pins σ Q) X.xe s
def WT (X : Cx) (e : Expr) : TT := fun σ H Q => ∀ (pins : List (Addr × Obj)) (s : Shared), Inv X pins σ H s → wpAny (model X.prog X.w) X.A (isTrue e X.env (eval e X.env)) (TP X pins σ Q) X.xe s
def WW (X : Cx) (e : Expr) : TT := fun σ H Q => ∀ (whole : Sem Value) (pins : List (Addr × Obj)) (s : Shared), Inv X pins σ H s → wpAny (model X.prog X.w) X.A (isTrue e X.env whole) (TP X pins σ Q) X.xe s
def WA (X : Cx) (es : List Expr) : TA := fun σ H Q => ∀ (pos : Pos) (pins : List (Addr × Obj)) (s : Shared), Inv X pins σ H s → wpAny (model X.prog X.w) X.A (spliced (backTo pos (starEach es X.env))) (AP X pins σ Q) X.xe s
def WS (X : Cx) (st : Stmt) : TS := fun D σ H => ∀ (pins : List (Addr × Obj)) (s : Shared), Inv X pins σ H s → wpAny (model X.prog X.w) X.A (exec st X.env) (SP X pins D) X.xe s
def WSs (X : Cx) (sts : List Stmt) : TS := fun D σ H => ∀ (pins : List (Addr × Obj)) (s : Shared), Inv X pins σ H s → wpAny (model X.prog X.w) X.A (execs sts X.env) (SP X pins D) X.xe s
def WTs (X : Cx) (ifs : List Expr) : TT := fun σ H Q => ∀ (pins : List (Addr × Obj)) (s : Shared), Inv X pins σ H s →
    wpAny (model X.prog X.w) X.A (forIn ifs true fun c r => if r = true then do let ok ← isTrue c X.env (eval c X.env); pure (ForInStep.yield ok) else pure (ForInStep.yield r)) (TP X pins σ Q) X.xe s
theorem pe_w (e : Expr) : PE X e (WE X e) := ⟨fun pins s σ H Q I h => h pins s I⟩
theorem pt_w (e : Expr) : PT X e (WT X e) := ⟨fun pins s σ H Q I h => h pins s I⟩
theorem pw_w (e : Expr) : PW X e (WW X e) := ⟨fun wh pins s σ H Q I h => h wh pins s I⟩
theorem pa_w (es : List Expr) : PA X es (WA X es) := ⟨fun pos pins s σ H Q I h => h pos pins s I⟩
theorem ps_w (st : Stmt) : PS X st (WS X st) := ⟨fun pins s σ H D I h => h pins s I⟩
theorem pss_w (sts : List Stmt) : PSs X sts (WSs X sts) := ⟨fun pins s σ H D I h => h pins s I⟩
theorem pts_w (ifs : List Expr) : PTs X ifs (WTs X ifs) := ⟨fun pins s σ H Q I h => h pins s I⟩
theorem we_of {e : Expr} {t : TE} {σ : L2.St} {H : Hp} {Q : VK} (p : PE X e t) (h : t σ H Q) : WE X e σ H Q := fun pins s I => p.run pins s σ H Q I h
theorem wt_of {e : Expr} {t : TT} {σ : L2.St} {H : Hp} {Q : Bool → Hp → Prop} (p : PT X e t) (h : t σ H Q) : WT X e σ H Q := fun pins s I => p.run pins s σ H Q I h
theorem ww_of {e : Expr} {t : TT} {σ : L2.St} {H : Hp} {Q : Bool → Hp → Prop} (p : PW X e t) (h : t σ H Q) : WW X e σ H Q := fun wh pins s I => p.run wh pins s σ H Q I h
theorem wa_of {es : List Expr} {t : TA} {σ : L2.St} {H : Hp} {Q : List V → Hp → Prop} (p : PA X es t) (h : t σ H Q) : WA X es σ H Q := fun pos pins s I => p.run pos pins s σ H Q I h
theorem ws_of {st : Stmt} {t : TS} {D : Ends} {σ : L2.St} {H : Hp} (p : PS X st t) (h : t D σ H) : WS X st D σ H := fun pins s I => p.run pins s σ H D I h
theorem wss_of {sts : List Stmt} {t : TS} {D : Ends} {σ : L2.St} {H : Hp} (p : PSs X sts t) (h : t D σ H) : WSs X sts D σ H := fun pins s I => p.run pins s σ H D I h
theorem wts_of {ifs : List Expr} {t : TT} {σ : L2.St} {H : Hp} {Q : Bool → Hp → Prop} (p : PTs X ifs t) (h : t σ H Q) : WTs X ifs σ H Q := fun pins s I => p.run pins s σ H Q I h
/-- the ends of a statement that stands ahead of others -/
def thn (X : Cx) (rest : List Stmt) (D : Ends) : Ends := { D with nx := WSs X rest D }
theorem wss_cons {st : Stmt} {rest : List Stmt} {D : Ends} {σ : L2.St} {H : Hp} (h : WS X st (thn X rest D) σ H) : WSs X (st :: rest) D σ H :=
  wss_of (pss_cons (ps_w st) (pss_w rest)) h
theorem wss_nil {D : Ends} {σ : L2.St} {H : Hp} (h : D.nx σ H) : WSs X [] D σ H := wss_of pss_nil h
end

/-! ### heaps: F what stands for good, M what is one's own and may change -/
/-- what one's own part holds -/
def mine : HO → Bool
  | .tup _ => false
  | .tbl _ => false
  | .ext _ => false
  | _ => true
/-- no table -/
def ntb : HO → Bool
  | .tbl _ => false
  | _ => true
theorem ntb_of {o : HO} (h : mine o = true) : ntb o = true := by cases o <;> first | rfl | cases h
/-- the tables of code objects that lambdas are kept in, and their names -/
class Lams where
  T : List (Addr × Str)
structure Own [Lams] (F M H : Hp) : Prop where
  f : Same F H
  m : Same M H
  d : ∀ a o, M a = some o → F a = none
  t : ∀ a o, M a = some o → mine o = true
  b : LamX.Tabs Lams.T H
  u : ∀ a o, F a = some o → ntb o = true
theorem tab_new [Lams] {H : Hp} {p : Addr} {o : HO} (h : H p = none) (b : LamX.Tabs Lams.T H) : LamX.Tabs Lams.T (upd H p o) := b.ext fun c x e => by rw [upd_ne (ne_of_none e h)]; exact e
theorem tab_put [Lams] {H : Hp} {p : Addr} {o u : HO} (h : H p = some u) (hm : mine u = true) (b : LamX.Tabs Lams.T H) : LamX.Tabs Lams.T (upd H p o) := fun q hq => by
  obtain ⟨ps, h1, h2, h3⟩ := b q hq
  refine ⟨ps, ?_, h2, fun pos cv hc => ?_⟩
  · rw [upd_ne (fun z => by rw [z, h] at h1; cases h1; cases hm)]; exact h1
  · obtain ⟨c, e1, e2⟩ := h3 pos cv hc
    refine ⟨c, e1, ?_⟩
    rw [upd_ne (fun z => by rw [z, h] at e2; cases (Option.some.inj e2); cases hm)]; exact e2
section
variable [Lams] {F F1 M M1 H H1 : Hp} {a b p : Addr} {o u : HO}
omit [Lams] in
theorem same_new (h : H p = none) : Same H (upd H p o) := fun b x e => by
  rw [upd_ne (ne_of_none e h)]
  exact e
omit [Lams] in
theorem same_in (e : Same M H) (h : M p = none) : Same M (upd H p o) := fun b x hb => by
  rw [upd_ne (ne_of_none hb h)]
  exact e b x hb
omit [Lams] in
theorem same_upd (e : Same F H) : Same (upd F p o) (upd H p o) := fun b x hb => by
  by_cases q : b = p
  · subst q; rw [upd_same] at hb ⊢; exact hb
  · rw [upd_ne q] at hb ⊢; exact e b x hb
omit [Lams] in
theorem Same.no (e : Same F H) (h : H p = none) : F p = none := by
  cases q : F p with
  | none => rfl
  | some x => rw [e p x q] at h; cases h
theorem Own.noF (w : Own F M H) (h : H p = none) : F p = none := Same.no w.f h
theorem Own.noM (w : Own F M H) (h : H p = none) : M p = none := Same.no w.m h
omit [Lams] in
theorem ntb_upd (hu : ∀ a o, F a = some o → ntb o = true) (ho : ntb o = true) : ∀ a x, upd F p o a = some x → ntb x = true := fun b x e => by
  by_cases q : b = p
  · subst q; rw [upd_same] at e; cases e; exact ho
  · rw [upd_ne q] at e; exact hu b x e
/-- something new, of which no part speaks -/
theorem Own.more (w : Own F M H) (h : H p = none) : Own F M (upd H p o) := ⟨same_in w.f (w.noF h), same_in w.m (w.noM h), w.d, w.t, tab_new h w.b, w.u⟩
theorem Own.newF (w : Own F M H) (h : H p = none) (ho : ntb o = true := by rfl) : Own (upd F p o) M (upd H p o) :=
  ⟨same_upd w.f, same_in w.m (Same.no w.m h), fun b x e => by
    have hb : b ≠ p := fun q => by rw [q, Same.no w.m h] at e; cases e
    rw [upd_ne hb]; exact w.d b x e, w.t, tab_new h w.b, ntb_upd w.u ho⟩
omit [Lams] in
theorem mine_upd (ht : ∀ a o, M a = some o → mine o = true) (ho : mine o = true) : ∀ a x, upd M p o a = some x → mine x = true := fun b x e => by
  by_cases q : b = p
  · subst q; rw [upd_same] at e; cases e; exact ho
  · rw [upd_ne q] at e; exact ht b x e
theorem Own.newM (w : Own F M H) (h : H p = none) (ho : mine o = true := by rfl) : Own F (upd M p o) (upd H p o) :=
  ⟨same_in w.f (Same.no w.f h), same_upd w.m, fun b x e => by
    by_cases q : b = p
    · subst q; exact Same.no w.f h
    · rw [upd_ne q] at e; exact w.d b x e, mine_upd w.t ho, tab_new h w.b, w.u⟩
theorem Own.put (w : Own F M H) (h : M p = some u) (ho : mine o = true := by rfl) : Own F (upd M p o) (upd H p o) :=
  ⟨same_in w.f (w.d p u h), same_upd w.m, fun b x e => by
    by_cases q : b = p
    · subst q; exact w.d b u h
    · rw [upd_ne q] at e; exact w.d b x e, mine_upd w.t ho, tab_put (w.m _ _ h) (w.t _ _ h) w.b, w.u⟩
def del (M : Hp) (p : Addr) : Hp := fun b => if b = p then none else M b
omit [Lams] in
theorem del_same : del M p p = none := by unfold del; rw [if_pos rfl]
omit [Lams] in
theorem del_ne (h : b ≠ p) : del M p b = M b := by unfold del; rw [if_neg h]
theorem Own.freeze (w : Own F M H) (h : M p = some o) : Own (upd F p o) (del M p) H :=
  ⟨fun b x e => by
    by_cases q : b = p
    · subst q; rw [upd_same] at e; cases e; exact w.m b _ h
    · rw [upd_ne q] at e; exact w.f b x e,
   fun b x e => by
    by_cases q : b = p
    · subst q; rw [del_same] at e; cases e
    · rw [del_ne q] at e; exact w.m b x e,
   fun b x e => by
    by_cases q : b = p
    · subst q; rw [del_same] at e; cases e
    · rw [del_ne q] at e; rw [upd_ne q]; exact w.d b x e,
   fun b x e => by
    by_cases q : b = p
    · subst q; rw [del_same] at e; cases e
    · rw [del_ne q] at e; exact w.t b x e, w.b, ntb_upd w.u (ntb_of (w.t _ _ h))⟩
theorem Own.lessM (w : Own F M H) (s : Same M1 M) : Own F M1 H := ⟨w.f, s.trans w.m, fun a o e => w.d a o (s a o e), fun a o e => w.t a o (s a _ e), w.b, w.u⟩
theorem Own.lessF (w : Own F M H) (s : Same F1 F) : Own F1 M H := ⟨s.trans w.f, w.m, fun a o e => by
  have h := w.d a o e
  exact Same.no s h, w.t, w.b, fun a o e => w.u a o (s a o e)⟩
theorem Own.neF (w : Own F M H) (hF : F b = some u) (h : M p = some o) : b ≠ p := fun q => by
  subst q; rw [w.d b o h] at hF; cases hF
omit [Lams] in
theorem same_del (e : Same M1 M) (h : M1 p = none) : Same M1 (del M p) := fun b x hb => by
  rw [del_ne (ne_of_none hb h)]; exact e b x hb
/-- what was frozen for a while is one's own again -/
theorem Own.thaw (w : Own F M H) (h : M p = some o) (w1 : Own F1 (del M p) H1) (s : Same (upd F p o) F1) : Own F M H1 :=
  ⟨fun b x e => w1.f b x (s b x (by rw [upd_ne (w.neF e h)]; exact e)),
   fun b x e => by
    by_cases q : b = p
    · subst q; rw [h] at e; cases e; exact w1.f b _ (s b _ upd_same)
    · exact w1.m b x (by rw [del_ne q]; exact e),
   w.d, w.t, w1.b, w.u⟩
end

/-! ### what stands for what -/
abbrev Rep (α : Type) := Hp → V → α → Prop
/-- a dict that stands there, to be read: locked or not -/
inductive DictO : HO → HO → Prop
  | k (kvs) : DictO (.dK kvs) (.dK kvs)
  | kf (o kvs) : DictO (.frz o (.dK kvs)) (.dK kvs)
  | t (kvs) : DictO (.dT kvs) (.dT kvs)
  | tf (o kvs) : DictO (.frz o (.dT kvs)) (.dT kvs)
/-- all stands as it was, but that dicts may have been locked or unlocked -/
def Sub (F F' : Hp) : Prop := ∀ a o, F a = some o → F' a = some o ∨ ∃ d o', DictO o d ∧ F' a = some o' ∧ DictO o' d
theorem Same.sub {F F' : Hp} (s : Same F F') : Sub F F' := fun a o h => .inl (s a o h)
theorem Sub.refl (F : Hp) : Sub F F := fun _ _ h => .inl h
theorem Sub.lst {F F' : Hp} (s : Sub F F') {a : Addr} {xs : List V} (h : F a = some (.lst xs)) : F' a = some (.lst xs) := by
  rcases s a _ h with h | ⟨d, o', h1, _⟩
  · exact h
  · cases h1
theorem Sub.tup {F F' : Hp} (s : Sub F F') {a : Addr} {xs : List V} (h : F a = some (.tup xs)) : F' a = some (.tup xs) := by
  rcases s a _ h with h | ⟨d, o', h1, _⟩
  · exact h
  · cases h1
theorem Sub.ins {F F' : Hp} (s : Sub F F') {a C dx : Addr} {fs : List (Str × V)} (h : F a = some (.ins C dx fs)) : F' a = some (.ins C dx fs) := by
  rcases s a _ h with h | ⟨d, o', h1, _⟩
  · exact h
  · cases h1
theorem Sub.dic {F F' : Hp} (s : Sub F F') {a : Addr} {o d : HO} (h : F a = some o) (k : DictO o d) : ∃ o', F' a = some o' ∧ DictO o' d := by
  rcases s a _ h with h | ⟨d', o', h1, h2, h3⟩
  · exact ⟨o, h, k⟩
  · have : d = d' := by cases k <;> cases h1 <;> rfl
    subst this
    exact ⟨o', h2, h3⟩
theorem Sub.trans {F F1 F2 : Hp} (a : Sub F F1) (b : Sub F1 F2) : Sub F F2 := fun x o h => by
  rcases a x o h with h1 | ⟨d, o', h1, h2, h3⟩
  · exact b x o h1
  · obtain ⟨o2, h4, h5⟩ := b.dic h2 h3
    exact .inr ⟨d, o2, h1, h4, h5⟩
theorem Sub.sql {K : PySem.W.Frag} {F F' : Hp} {a : Addr} {vs : List V} (e : Sub F F') (h : SqL K F a vs) : SqL K F' a vs := by
  rcases h with (h | ⟨o, h⟩) | h
  · exact .inl (.inl (e.lst h))
  · rcases e a _ h with h | ⟨d, o', h1, _⟩
    · exact .inl (.inr ⟨o, h⟩)
    · cases h1
  · exact .inr h
class Mono {α : Type} (r : Rep α) : Prop where
  sub : ∀ {F F' : Hp} {v : V} {x : α}, Sub F F' → r F v x → r F' v x
theorem Mono.mono {α : Type} {r : Rep α} [m : Mono r] {F F' : Hp} {v : V} {x : α} (s : Same F F') (h : r F v x) : r F' v x := m.sub (Same.sub s) h
inductive A2 {α β : Type} (p : α → β → Prop) : List α → List β → Prop
  | nil : A2 p [] []
  | cons {a b as bs} : p a b → A2 p as bs → A2 p (a :: as) (b :: bs)
namespace A2
variable {α β : Type} {p q : α → β → Prop}
theorem len : ∀ {as : List α} {bs : List β}, A2 p as bs → as.length = bs.length
  | _, _, .nil => rfl
  | _, _, .cons _ t => by simp [t.len]
theorem imp (f : ∀ a b, p a b → q a b) : ∀ {as : List α} {bs : List β}, A2 p as bs → A2 q as bs
  | _, _, .nil => .nil
  | _, _, .cons h t => .cons (f _ _ h) (t.imp f)
theorem get : ∀ {as : List α} {bs : List β} {i : Nat} {b : β}, A2 p as bs → bs[i]? = some b → ∃ a, as[i]? = some a ∧ p a b
  | _, _, _, _, .nil, e => by simp at e
  | _, _, 0, _, .cons h _, e => by simp at e; subst e; exact ⟨_, rfl, h⟩
  | _, _, i + 1, _, .cons _ t, e => by
    obtain ⟨a, h1, h2⟩ := get (i := i) t (by simpa using e)
    exact ⟨a, by simpa using h1, h2⟩
theorem getL : ∀ {as : List α} {bs : List β} {i : Nat} {a : α}, A2 p as bs → as[i]? = some a → ∃ b, bs[i]? = some b ∧ p a b
  | _, _, _, _, .nil, e => by simp at e
  | _, _, 0, _, .cons h _, e => by simp at e; subst e; exact ⟨_, rfl, h⟩
  | _, _, i + 1, _, .cons _ t, e => by
    obtain ⟨b, h1, h2⟩ := getL (i := i) t (by simpa using e)
    exact ⟨b, by simpa using h1, h2⟩
theorem app : ∀ {as as' : List α} {bs bs' : List β}, A2 p as bs → A2 p as' bs' → A2 p (as ++ as') (bs ++ bs')
  | _, _, _, _, .nil, h => h
  | _, _, _, _, .cons h t, h' => .cons h (t.app h')
theorem one {a : α} {b : β} (h : p a b) : A2 p [a] [b] := .cons h .nil
theorem push {as : List α} {bs : List β} {a : α} {b : β} (t : A2 p as bs) (h : p a b) : A2 p (as ++ [a]) (bs ++ [b]) := t.app (one h)
theorem drop : ∀ {as : List α} {bs : List β} (n : Nat), A2 p as bs → A2 p (as.drop n) (bs.drop n)
  | _, _, 0, h => h
  | _, _, _ + 1, .nil => .nil
  | _, _, n + 1, .cons _ t => t.drop n
theorem take : ∀ {as : List α} {bs : List β} (n : Nat), A2 p as bs → A2 p (as.take n) (bs.take n)
  | _, _, 0, _ => .nil
  | _, _, _ + 1, .nil => .nil
  | _, _, n + 1, .cons h t => .cons h (t.take n)
theorem rev : ∀ {as : List α} {bs : List β}, A2 p as bs → A2 p as.reverse bs.reverse
  | _, _, .nil => .nil
  | _, _, .cons h t => by rw [List.reverse_cons, List.reverse_cons]; exact t.rev.push h
theorem set {a : α} {b : β} (h : p a b) : ∀ {as : List α} {bs : List β} (i : Nat), A2 p as bs → A2 p (as.set i a) (bs.set i b)
  | _, _, _, .nil => .nil
  | _, _, 0, .cons _ t => .cons h t
  | _, _, i + 1, .cons q t => .cons q (A2.set h i t)
theorem of_map {γ : Type} {f : β → α} {as : List α} {bs : List β} (e : as = bs.map f) (h : ∀ b, b ∈ bs → p (f b) b) : A2 p as bs := by
  subst e
  induction bs with
  | nil => exact .nil
  | cons b bs ih => exact .cons (h b (by simp)) (ih fun c hc => h c (by simp [hc]))
theorem eq_map {f : β → α} : ∀ {as : List α} {bs : List β}, A2 (fun a b => a = f b) as bs → as = bs.map f
  | _, _, .nil => rfl
  | _, _, .cons h t => by rw [h, t.eq_map]; rfl
theorem mapI (f : β → α) : ∀ (bs : List β), A2 (fun a b => a = f b) (bs.map f) bs
  | [] => .nil
  | _ :: t => .cons rfl (mapI f t)
end A2
def iR : Rep Int := fun _ v x => v = .int x
def bR : Rep Bool := fun _ v x => v = .bl x
def sR : Rep Str := fun _ v x => v = .str x ∧ PyData.canLay0 (.str x) = true
def nR : Rep Unit := fun _ v _ => v = .non
def oR {α : Type} (r : Rep α) : Rep (Option α) := fun F v x => match x with | none => v = .non | some y => r F v y
def lR {α : Type} (r : Rep α) : Rep (List α) := fun F v xs => ∃ a vs, v = .ref a ∧ F a = some (.lst vs) ∧ A2 (r F) vs xs
def t2R {α β : Type} (r : Rep α) (s : Rep β) : Rep (α × β) := fun F v x => ∃ a u w, v = .ref a ∧ F a = some (.tup [u, w]) ∧ r F u x.1 ∧ s F w x.2
def t3R {α β γ : Type} (r : Rep α) (s : Rep β) (t : Rep γ) : Rep (α × β × γ) := fun F v x => ∃ a u w z, v = .ref a ∧ F a = some (.tup [u, w, z]) ∧ r F u x.1 ∧ s F w x.2.1 ∧ t F z x.2.2
/-- a list that is read: for good, the module's, or one's own -/
def rdR (K : PySem.W.Frag) (M : Hp) {α : Type} (r : Rep α) : Rep (List α) := fun F v xs => ∃ a vs, v = .ref a ∧ (SqL K F a vs ∨ M a = some (.lst vs)) ∧ A2 (r F) vs xs
/-- .. for good -/
def rsR (K : PySem.W.Frag) {α : Type} (r : Rep α) : Rep (List α) := fun F v xs => ∃ a vs, v = .ref a ∧ SqL K F a vs ∧ A2 (r F) vs xs
theorem Same.sql {K : PySem.W.Frag} {F F' : Hp} {a : Addr} {vs : List V} (e : Same F F') (h : SqL K F a vs) : SqL K F' a vs := L2.Same.seq e h
theorem Same.sqt {K : PySem.W.Frag} {F F' : Hp} {a : Addr} {vs : List V} (e : Same F F') (h : SqT K F a vs) : SqT K F' a vs := by
  rcases h with (h | ⟨o, h⟩) | h
  · exact .inl (.inl (e _ _ h))
  · exact .inl (.inr ⟨o, e _ _ h⟩)
  · exact .inr h
instance : Mono iR := ⟨fun _ h => h⟩
instance : Mono bR := ⟨fun _ h => h⟩
instance : Mono sR := ⟨fun _ h => h⟩
instance : Mono nR := ⟨fun _ h => h⟩
theorem A2.sub {α : Type} {r : Rep α} [m : Mono r] {F F' : Hp} (e : Sub F F') {vs : List V} {xs : List α} (h : A2 (r F) vs xs) : A2 (r F') vs xs := h.imp fun _ _ q => m.sub e q
theorem A2.up {α : Type} {r : Rep α} [m : Mono r] {F F' : Hp} (e : Same F F') {vs : List V} {xs : List α} (h : A2 (r F) vs xs) : A2 (r F') vs xs := h.sub (Same.sub e)
instance {α : Type} {r : Rep α} [m : Mono r] : Mono (oR r) := ⟨fun {F F' v x} e h => by cases x with
  | none => exact h
  | some y => exact m.sub (x := y) e h⟩
instance {α : Type} {r : Rep α} [m : Mono r] : Mono (lR r) := ⟨fun e ⟨a, vs, h1, h2, h3⟩ => ⟨a, vs, h1, e.lst h2, h3.sub e⟩⟩
instance {α β : Type} {r : Rep α} {s : Rep β} [m : Mono r] [n : Mono s] : Mono (t2R r s) := ⟨fun e ⟨a, u, w, h1, h2, h3, h4⟩ => ⟨a, u, w, h1, e.tup h2, m.sub e h3, n.sub e h4⟩⟩
instance {α β γ : Type} {r : Rep α} {s : Rep β} {t : Rep γ} [m : Mono r] [n : Mono s] [k : Mono t] : Mono (t3R r s t) := ⟨fun e ⟨a, u, w, z, h1, h2, h3, h4, h5⟩ => ⟨a, u, w, z, h1, e.tup h2, m.sub e h3, n.sub e h4, k.sub e h5⟩⟩
instance {K : PySem.W.Frag} {M : Hp} {α : Type} {r : Rep α} [m : Mono r] : Mono (rdR K M r) := ⟨fun e ⟨a, vs, h1, h2, h3⟩ => ⟨a, vs, h1, h2.imp (fun q => Sub.sql e q) id, h3.sub e⟩⟩
instance {K : PySem.W.Frag} {α : Type} {r : Rep α} [m : Mono r] : Mono (rsR K r) := ⟨fun e ⟨a, vs, h1, h2, h3⟩ => ⟨a, vs, h1, Sub.sql e h2, h3.sub e⟩⟩
theorem lR.rs {K : PySem.W.Frag} {α : Type} {r : Rep α} {F : Hp} {v : V} {xs : List α} (h : lR r F v xs) : rsR K r F v xs :=
  let ⟨a, vs, h1, h2, h3⟩ := h; ⟨a, vs, h1, SqL.of h2, h3⟩
theorem rsR.rd {K : PySem.W.Frag} {M : Hp} {α : Type} {r : Rep α} {F : Hp} {v : V} {xs : List α} (h : rsR K r F v xs) : rdR K M r F v xs :=
  let ⟨a, vs, h1, h2, h3⟩ := h; ⟨a, vs, h1, .inl h2, h3⟩
theorem lR.rd {K : PySem.W.Frag} {M : Hp} {α : Type} {r : Rep α} {F : Hp} {v : V} {xs : List α} (h : lR r F v xs) : rdR K M r F v xs := (lR.rs (K := K) h).rd
theorem Own.sq [Lams] {K : PySem.W.Frag} {F M H : Hp} {a : Addr} {vs : List V} (w : Own F M H) (h : SqL K F a vs ∨ M a = some (.lst vs)) : SqL K H a vs := by
  rcases h with h | h
  · exact Same.sql w.f h
  · exact SqL.of (w.m _ _ h)
theorem iR_map {F : Hp} {vs : List V} {xs : List Int} (h : A2 (iR F) vs xs) : vs = xs.map V.int := A2.eq_map (f := V.int) h

/-! ### what an expression evaluates to -/
def Ev [Lams] (X : Cx) (e : Expr) (σ : L2.St) (F M : Hp) (Φ : Hp → V → Prop) : Prop :=
  ∀ F1 H1, Same F F1 → Own F1 M H1 → ∀ Q : VK, (∀ F2 H2 v, Same F1 F2 → Own F2 M H2 → Φ F2 v → Q v H2) → WE X e σ H1 Q
abbrev EvF [Lams] (X : Cx) (e : Expr) (σ : L2.St) (F M : Hp) {α : Type} (r : Rep α) (x : α) : Prop := Ev X e σ F M fun F v => r F v x
def EvT [Lams] (X : Cx) (e : Expr) (σ : L2.St) (F M : Hp) (b : Bool) : Prop :=
  ∀ F1 H1, Same F F1 → Own F1 M H1 → ∀ Q : Bool → Hp → Prop, (∀ F2 H2, Same F1 F2 → Own F2 M H2 → Q b H2) → WT X e σ H1 Q
def EvW [Lams] (X : Cx) (e : Expr) (σ : L2.St) (F M : Hp) (b : Bool) : Prop :=
  ∀ F1 H1, Same F F1 → Own F1 M H1 → ∀ Q : Bool → Hp → Prop, (∀ F2 H2, Same F1 F2 → Own F2 M H2 → Q b H2) → WW X e σ H1 Q
def EvTs [Lams] (X : Cx) (es : List Expr) (σ : L2.St) (F M : Hp) (b : Bool) : Prop :=
  ∀ F1 H1, Same F F1 → Own F1 M H1 → ∀ Q : Bool → Hp → Prop, (∀ F2 H2, Same F1 F2 → Own F2 M H2 → Q b H2) → WTs X es σ H1 Q
def EvA [Lams] (X : Cx) (es : List Expr) (σ : L2.St) (F M : Hp) (Φ : Hp → List V → Prop) : Prop :=
  ∀ F1 H1, Same F F1 → Own F1 M H1 → ∀ Q : List V → Hp → Prop, (∀ F2 H2 vs, Same F1 F2 → Own F2 M H2 → Φ F2 vs → Q vs H2) → WA X es σ H1 Q
section
variable [Lams] {X : Cx} {σ : L2.St} {F M : Hp} {a b c e : Expr} {pos p : Pos} {α β : Type} {r : Rep α} {s : Rep β}
theorem Ev.imp {Φ Ψ : Hp → V → Prop} (h : Ev X e σ F M Φ) (f : ∀ F v, Φ F v → Ψ F v) : Ev X e σ F M Ψ := fun F1 H1 s w Q q => h F1 H1 s w Q fun F2 H2 v s2 w2 z => q F2 H2 v s2 w2 (f _ _ z)
theorem Ev.up {F' : Hp} {Φ : Hp → V → Prop} (h : Ev X e σ F M Φ) (s : Same F F') : Ev X e σ F' M Φ := fun F1 H1 s1 w Q q => h F1 H1 (s.trans s1) w Q q
theorem EvT.up {F' : Hp} {k : Bool} (h : EvT X e σ F M k) (s : Same F F') : EvT X e σ F' M k := fun F1 H1 s1 w Q q => h F1 H1 (s.trans s1) w Q q
theorem Ev.eq {x y : α} (h : EvF X e σ F M r x) (q : x = y) : EvF X e σ F M r y := q ▸ h
/-- a list for reading -/
theorem Ev.rd {xs : List α} (h : EvF X e σ F M (lR r) xs) : EvF X e σ F M (rdR X.K M r) xs := h.imp fun _ _ z => z.rd
theorem Ev.sd {xs : List α} (h : EvF X e σ F M (rsR X.K r) xs) : EvF X e σ F M (rdR X.K M r) xs := h.imp fun _ _ z => z.rd
theorem Ev.rs {xs : List α} (h : EvF X e σ F M (lR r) xs) : EvF X e σ F M (rsR X.K r) xs := h.imp fun _ _ z => z.rs

/-! names and constants -/
theorem ev_var (i : Nat) {x : α} {v : V} {n : Str} [m : Mono r] (hs : σ[i]? = some (some v)) (hr : r F v x) (hN : X.N[i]? = some n := by rfl)
    (hv : Vis X.env.scope n := by first | exact Or.inl rfl | exact Or.inr (Or.inl rfl) | exact Or.inr (Or.inr rfl)) (hd : (n == ("__debug__" : Str)) = false := by decide) (hcd : (n == ("__classdict__" : Str)) = false := by decide) :
    EvF X (.Name n pos) σ F M r x := fun F1 H1 s w Q q => we_of (pe_var hN hv hd hcd) ⟨v, hs, q F1 H1 v (Same.refl _) w (Mono.mono s hr)⟩
/-- a list of one's own, for reading -/
theorem ev_varM (i : Nat) {xs : List α} {l : Addr} {vs : List V} {n : Str} [m : Mono r] (hs : σ[i]? = some (some (.ref l))) (hM : M l = some (.lst vs)) (hr : A2 (r F) vs xs) (hN : X.N[i]? = some n := by rfl)
    (hv : Vis X.env.scope n := by first | exact Or.inl rfl | exact Or.inr (Or.inl rfl) | exact Or.inr (Or.inr rfl)) (hd : (n == ("__debug__" : Str)) = false := by decide) (hcd : (n == ("__classdict__" : Str)) = false := by decide) :
    EvF X (.Name n pos) σ F M (rdR X.K M r) xs := fun F1 H1 s w Q q => we_of (pe_var hN hv hd hcd) ⟨_, hs, q F1 H1 _ (Same.refl _) w ⟨l, vs, rfl, .inr hM, hr.up s⟩⟩
theorem ev_val (i : Nat) {v : V} {n : Str} (hs : σ[i]? = some (some v)) (hN : X.N[i]? = some n := by rfl)
    (hv : Vis X.env.scope n := by first | exact Or.inl rfl | exact Or.inr (Or.inl rfl) | exact Or.inr (Or.inr rfl)) (hd : (n == ("__debug__" : Str)) = false := by decide) (hcd : (n == ("__classdict__" : Str)) = false := by decide) :
    Ev X (.Name n pos) σ F M (fun _ u => u = v) := fun F1 H1 s w Q q => we_of (pe_var hN hv hd hcd) ⟨v, hs, q F1 H1 v (Same.refl _) w rfl⟩
theorem ev_int {i : Int} {j} : EvF X (.Constant (.int i) j pos) σ F M iR i := fun F1 H1 s w Q q => we_of pe_int (q F1 H1 _ (Same.refl _) w rfl)
theorem ev_bl {i : Bool} {j} : EvF X (.Constant (.bool i) j pos) σ F M bR i := fun F1 H1 s w Q q => we_of pe_bl (q F1 H1 _ (Same.refl _) w rfl)
theorem ev_non {j} : EvF X (.Constant .none j pos) σ F M nR () := fun F1 H1 s w Q q => we_of pe_non (q F1 H1 _ (Same.refl _) w rfl)
theorem ev_noneO {j} : EvF X (.Constant .none j pos) σ F M (oR r) none := fun F1 H1 s w Q q => we_of pe_non (q F1 H1 _ (Same.refl _) w rfl)
theorem ev_str {i : Str} {j} (h : PyData.canLay0 (.str i) = true := by decide +kernel) : EvF X (.Constant (.str i) j pos) σ F M sR i := fun F1 H1 s w Q q => we_of pe_str (q F1 H1 _ (Same.refl _) w ⟨rfl, h⟩)
/-- a module's constant -/
theorem ev_glob {n : Str} {v : V} {u : Value} {Φ : Hp → V → Prop} (hm : X.mg n = some u) (rv : RelV v u) (h : ∀ F, Φ F v) (hg : Gl X n := by rfl) (hd : (n == ("__debug__" : Str)) = false := by decide) : Ev X (.Name n pos) σ F M Φ := fun F1 H1 s w Q q => we_of (pe_glob hg hm rv hd) (q F1 H1 _ (Same.refl _) w (h _))

theorem ev_globI {n : Str} {i : Int} {u : Tok} (hm : X.mg n = some (.int i u)) (hg : Gl X n := by rfl) (hd : (n == ("__debug__" : Str)) = false := by decide) : EvF X (.Name n pos) σ F M iR i := ev_glob (v := .int i) hm ⟨_, rfl⟩ (fun _ => rfl) hg hd
theorem ev_globS {n : Str} {i : Str} {u : Tok} (hm : X.mg n = some (.str i u)) (hl : PyData.canLay0 (.str i) = true := by decide +kernel) (hg : Gl X n := by rfl) (hd : (n == ("__debug__" : Str)) = false := by decide) : EvF X (.Name n pos) σ F M sR i := ev_glob (v := .str i) hm ⟨_, rfl⟩ (fun _ => ⟨rfl, hl⟩) hg hd

/-! ints -/
theorem ev_opI {op : Operator} {C : Int → Int → Prop} {g : Int → Int → V} {Φ : Hp → V → Prop} {i j : Int} (ho : OpR X (binaryOp op) (L2.rI C g)) (hc : C i j) (h : ∀ F, Φ F (g i j)) (ha : EvF X a σ F M iR i) (hb : EvF X b σ F M iR j) : Ev X (.BinOp a op b pos) σ F M Φ :=
  fun F1 H1 s w Q q => we_of (pe_op ho (pe_w a) (pe_w b)) (ha F1 H1 s w _ fun F2 H2 v s2 w2 hv => hb F2 H2 (s.trans s2) w2 _ fun F3 H3 u s3 w3 hu => ⟨i, j, hv, hu, hc, q F3 H3 _ (s2.trans s3) w3 (h F3)⟩)
theorem ev_opI0 {op : Operator} {g : Int → Int → V} {Φ : Hp → V → Prop} {i j : Int} (ho : OpR X (binaryOp op) (rI0 g)) (h : ∀ F, Φ F (g i j)) (ha : EvF X a σ F M iR i) (hb : EvF X b σ F M iR j) : Ev X (.BinOp a op b pos) σ F M Φ :=
  fun F1 H1 s w Q q => we_of (pe_op ho (pe_w a) (pe_w b)) (ha F1 H1 s w _ fun F2 H2 v s2 w2 hv => hb F2 H2 (s.trans s2) w2 _ fun F3 H3 u s3 w3 hu => ⟨i, j, hv, hu, q F3 H3 _ (s2.trans s3) w3 (h F3)⟩)
theorem ev_add {i j : Int} (ha : EvF X a σ F M iR i) (hb : EvF X b σ F M iR j) : EvF X (.BinOp a .Add b pos) σ F M iR (i + j) := ev_opI0 op_add (fun _ => rfl) ha hb
theorem ev_sub {i j : Int} (ha : EvF X a σ F M iR i) (hb : EvF X b σ F M iR j) : EvF X (.BinOp a .Sub b pos) σ F M iR (i - j) := ev_opI0 op_sub (fun _ => rfl) ha hb
theorem ev_mul {i j : Int} (ha : EvF X a σ F M iR i) (hb : EvF X b σ F M iR j) (hc : CMul i j) : EvF X (.BinOp a .Mult b pos) σ F M iR (i * j) := ev_opI op_mul hc (fun _ => rfl) ha hb
theorem ev_div {i j : Int} (ha : EvF X a σ F M iR i) (hb : EvF X b σ F M iR j) (hc : CDiv i j := by exact ⟨by decide, by decide⟩) : EvF X (.BinOp a .FloorDiv b pos) σ F M iR (i / j) := ev_opI op_fdiv hc (fun _ => rfl) ha hb
theorem ev_mod {i j : Int} (ha : EvF X a σ F M iR i) (hb : EvF X b σ F M iR j) (hc : 0 < j := by decide) : EvF X (.BinOp a .Mod b pos) σ F M iR (i % j) := ev_opI op_mod hc (fun _ => rfl) ha hb
theorem ev_pow {i j : Int} (ha : EvF X a σ F M iR i) (hb : EvF X b σ F M iR j) (hc : CPow i j := by exact ⟨by decide, by decide, by decide⟩) : EvF X (.BinOp a .Pow b pos) σ F M iR (i ^ j.toNat) := ev_opI op_pow hc (fun _ => rfl) ha hb
theorem ev_neg {i : Int} (ha : EvF X a σ F M iR i) : EvF X (.UnaryOp .USub a pos) σ F M iR (-i) :=
  fun F1 H1 s w Q q => we_of (pe_un un_neg (pe_w a)) (ha F1 H1 s w _ fun F2 H2 v s2 w2 hv => ⟨i, hv, q F2 H2 _ s2 w2 rfl⟩)

/-! comparisons, as values and as tests -/
/-- a truth, as a value and as a test -/
def Bx (X : Cx) (e : Expr) (σ : L2.St) (F M : Hp) (k : Bool) : Prop := EvF X e σ F M bR k ∧ EvT X e σ F M k
def WC (X : Cx) (op : CmpOp) (a b : Expr) : TE := fun σ H Q => ∀ (pins : List (Addr × Obj)) (s : Shared), Inv X pins σ H s →
  wpAny (model X.prog X.w) X.A (eval a X.env) (fun v s₁ => wpAny (model X.prog X.w) X.A (eval b X.env) (fun u s₂ => wpAny (model X.prog X.w) X.A (compareOp op v u) (EP X pins σ Q) X.xe s₂) X.xe s₁) X.xe s
omit [Lams] in
theorem pc_w (op : CmpOp) (a b : Expr) : PC X op a b (WC X op a b) := ⟨fun pins s σ H Q I h => h pins s I⟩
omit [Lams] in
theorem wc_of {op : CmpOp} {t : TE} {H : Hp} {Q : VK} (p : PC X op a b t) (h : t σ H Q) : WC X op a b σ H Q := fun pins s I => p.run pins s σ H Q I h
omit [Lams] in
theorem pc_R {op : CmpOp} {ta tb : TE} {r : R2} (ho : OpR X (compareOp op) r) (ha : PE X a ta) (hb : PE X b tb) : PC X op a b (tOp r ta tb) :=
  ⟨fun pins s σ H Q I h => bin ha hb I h fun v u s2 x y H2 I2 rx ry q => ho pins s2 σ H2 x y v u Q I2 rx ry q⟩
def EvC (X : Cx) (op : CmpOp) (a b : Expr) (σ : L2.St) (F M : Hp) (k : Bool) : Prop :=
  ∀ F1 H1, Same F F1 → Own F1 M H1 → ∀ Q : VK, (∀ F2 H2, Same F1 F2 → Own F2 M H2 → Q (.bl k) H2) → WC X op a b σ H1 Q
theorem bx_c {op : CmpOp} {k : Bool} (h : EvC X op a b σ F M k) (hm : behindInMarks op b = false := by first | exact nomark _ | rfl) : Bx X (.Compare a [op] [b] pos) σ F M k :=
  ⟨fun F1 H1 s w Q q => we_of (pe_cmp (pc_w op a b) hm) (h F1 H1 s w Q fun F2 H2 s2 w2 => q F2 H2 _ s2 w2 rfl),
   fun F1 H1 s w Q q => wt_of (pt_cmp (pc_w op a b) hm) (h F1 H1 s w _ fun F2 H2 s2 w2 => ⟨k, rfl, q F2 H2 s2 w2⟩)⟩
/-- a comparison by its rule on values -/
theorem ec_R {op : CmpOp} {rr : R2} {Φ Ψ : Hp → V → Prop} {k : Bool} (ho : OpR X (compareOp op) rr) (ha : Ev X a σ F M Φ) (hb : Ev X b σ F M Ψ) (hup : ∀ F F' v, Same F F' → Φ F v → Φ F' v)
    (h : ∀ F1 H1 v u, Same F F1 → Own F1 M H1 → Φ F1 v → Ψ F1 u → ∀ Q : VK, Q (.bl k) H1 → rr v u H1 Q) : EvC X op a b σ F M k :=
  fun F1 H1 s w Q q => wc_of (pc_R ho (pe_w a) (pe_w b)) (ha F1 H1 s w _ fun F2 H2 v s2 w2 hv => hb F2 H2 (s.trans s2) w2 _ fun F3 H3 u s3 w3 hu => h F3 H3 v u ((s.trans s2).trans s3) w3 (hup _ _ _ s3 hv) hu Q (q F3 H3 (s2.trans s3) w3))
theorem ec_I0 {op : CmpOp} {g : Int → Int → Bool} {i j : Int} (ho : OpR X (compareOp op) (rI0 fun i j => .bl (g i j))) (ha : EvF X a σ F M iR i) (hb : EvF X b σ F M iR j) : EvC X op a b σ F M (g i j) :=
  ec_R ho ha hb (fun _ _ _ _ h => h) fun _ _ _ _ _ _ hv hu _ q => ⟨i, j, hv, hu, q⟩
theorem bx_lt {i j : Int} (ha : EvF X a σ F M iR i) (hb : EvF X b σ F M iR j) : Bx X (.Compare a [.Lt] [b] pos) σ F M (decide (i < j)) := bx_c (ec_I0 (g := fun i j => decide (i < j)) op_lt ha hb)
theorem bx_le {i j : Int} (ha : EvF X a σ F M iR i) (hb : EvF X b σ F M iR j) : Bx X (.Compare a [.LtE] [b] pos) σ F M (decide (i ≤ j)) := bx_c (ec_I0 (g := fun i j => decide (i ≤ j)) op_le ha hb)
theorem bx_gt {i j : Int} (ha : EvF X a σ F M iR i) (hb : EvF X b σ F M iR j) : Bx X (.Compare a [.Gt] [b] pos) σ F M (decide (j < i)) := bx_c (ec_I0 (g := fun i j => decide (j < i)) op_gt ha hb)
theorem bx_ge {i j : Int} (ha : EvF X a σ F M iR i) (hb : EvF X b σ F M iR j) : Bx X (.Compare a [.GtE] [b] pos) σ F M (decide (j ≤ i)) := bx_c (ec_I0 (g := fun i j => decide (j ≤ i)) op_ge ha hb)
theorem bx_eqI {i j : Int} (ha : EvF X a σ F M iR i) (hb : EvF X b σ F M iR j) : Bx X (.Compare a [.Eq] [b] pos) σ F M (decide (i = j)) :=
  bx_c (ec_R op_eq ha hb (fun _ _ _ _ h => h) fun _ _ v u _ _ hv hu Q q => by
    cases (show v = V.int i from hv); cases (show u = V.int j from hu)
    refine ⟨rfl, ?_⟩
    rw [dec_int]; exact q)
theorem bx_neI {i j : Int} (ha : EvF X a σ F M iR i) (hb : EvF X b σ F M iR j) : Bx X (.Compare a [.NotEq] [b] pos) σ F M (!decide (i = j)) :=
  bx_c (ec_R op_ne ha hb (fun _ _ _ _ h => h) fun _ _ v u _ _ hv hu Q q => by
    cases (show v = V.int i from hv); cases (show u = V.int j from hu)
    refine ⟨rfl, ?_⟩
    rw [dec_int]; exact q)
theorem bx_eqS {i j : Str} (ha : EvF X a σ F M sR i) (hb : EvF X b σ F M sR j) : Bx X (.Compare a [.Eq] [b] pos) σ F M (decide (i = j)) :=
  bx_c (ec_R op_eq ha hb (fun _ _ _ _ h => h) fun _ _ v u _ _ hv hu Q q => by
    cases hv.1; cases hu.1
    refine ⟨rfl, ?_⟩
    rw [dec_str]; exact q)
theorem bx_neS {i j : Str} (ha : EvF X a σ F M sR i) (hb : EvF X b σ F M sR j) : Bx X (.Compare a [.NotEq] [b] pos) σ F M (!decide (i = j)) :=
  bx_c (ec_R op_ne ha hb (fun _ _ _ _ h => h) fun _ _ v u _ _ hv hu Q q => by
    cases hv.1; cases hu.1
    refine ⟨rfl, ?_⟩
    rw [dec_str]; exact q)
/-- a value that is a truth -/
theorem bx_val {k : Bool} (h : EvF X e σ F M bR k) (he : ∀ whole, isTrue e X.env whole = (do let v ← whole; standAt e.pos; holding [v] (truthy v)) := by intro _; rfl) : Bx X e σ F M k :=
  ⟨h, fun F1 H1 s w Q q => wt_of (pt_val (pe_w e) he) (h F1 H1 s w _ fun F2 H2 v s2 w2 hv => ⟨k, hv, q F2 H2 s2 w2⟩)⟩
theorem Bx.eq {k j : Bool} (h : Bx X e σ F M k) (q : k = j) : Bx X e σ F M j := q ▸ h
theorem bx_not {k : Bool} (h : Bx X a σ F M k) : Bx X (.UnaryOp .Not a pos) σ F M (!k) :=
  ⟨fun F1 H1 s w Q q => we_of (pe_not (pe_w a)) (h.1 F1 H1 s w _ fun F2 H2 v s2 w2 hv => ⟨k, hv, q F2 H2 _ s2 w2 rfl⟩),
   fun F1 H1 s w Q q => wt_of (pt_not (pt_w a)) (h.2 F1 H1 s w _ fun F2 H2 s2 w2 => q F2 H2 s2 w2)⟩
/-- and, or: a list of them -/
def BxL (X : Cx) (op : BoolOp) (es : List Expr) (pos : Pos) (σ : L2.St) (F M : Hp) (k : Bool) : Prop := EvF X (.BoolOp op es pos) σ F M bR k ∧ EvW X (.BoolOp op es pos) σ F M k
variable {rest : List Expr}
theorem bl_one_and {k : Bool} (h : Bx X a σ F M k) : BxL X .And [a] pos σ F M k :=
  ⟨fun F1 H1 s w Q q => we_of (pe_one (pe_w a)) (h.1 F1 H1 s w Q q), fun F1 H1 s w Q q => ww_of (pw_and1 (pt_w a)) (h.2 F1 H1 s w Q q)⟩
theorem bl_one_or {k : Bool} (h : Bx X a σ F M k) : BxL X .Or [a] pos σ F M k :=
  ⟨fun F1 H1 s w Q q => we_of (pe_one (pe_w a)) (h.1 F1 H1 s w Q q), fun F1 H1 s w Q q => ww_of (pw_or1 (pt_w a)) (h.2 F1 H1 s w Q q)⟩
theorem bl_and {k j : Bool} (h : Bx X a σ F M k) (t : k = true → BxL X .And (b :: rest) pos σ F M j) : BxL X .And (a :: b :: rest) pos σ F M (k && j) := by
  refine ⟨fun F1 H1 s w Q q => we_of (pe_and (pe_w a) (pe_w _)) (h.1 F1 H1 s w _ fun F2 H2 v s2 w2 hv => ⟨k, hv, ?_⟩), fun F1 H1 s w Q q => ww_of (pw_and (pt_w a) (pw_w _)) (h.2 F1 H1 s w _ fun F2 H2 s2 w2 => ?_)⟩
  · cases k with
    | true => exact (t rfl).1 F2 H2 (s.trans s2) w2 Q fun F3 H3 u s3 w3 hu => q F3 H3 u (s2.trans s3) w3 hu
    | false => exact q F2 H2 _ s2 w2 rfl
  · cases k with
    | true => exact (t rfl).2 F2 H2 (s.trans s2) w2 Q fun F3 H3 s3 w3 => q F3 H3 (s2.trans s3) w3
    | false => exact q F2 H2 s2 w2
theorem bl_or {k j : Bool} (h : Bx X a σ F M k) (t : k = false → BxL X .Or (b :: rest) pos σ F M j) : BxL X .Or (a :: b :: rest) pos σ F M (k || j) := by
  refine ⟨fun F1 H1 s w Q q => we_of (pe_or (pe_w a) (pe_w _)) (h.1 F1 H1 s w _ fun F2 H2 v s2 w2 hv => ⟨k, hv, ?_⟩), fun F1 H1 s w Q q => ww_of (pw_or (pt_w a) (pw_w _)) (h.2 F1 H1 s w _ fun F2 H2 s2 w2 => ?_)⟩
  · cases k with
    | false => exact (t rfl).1 F2 H2 (s.trans s2) w2 Q fun F3 H3 u s3 w3 hu => q F3 H3 u (s2.trans s3) w3 hu
    | true => exact q F2 H2 _ s2 w2 rfl
  · cases k with
    | false => exact (t rfl).2 F2 H2 (s.trans s2) w2 Q fun F3 H3 s3 w3 => q F3 H3 (s2.trans s3) w3
    | true => exact q F2 H2 s2 w2
theorem bx_l {op : BoolOp} {es : List Expr} {k : Bool} (h : BxL X op es pos σ F M k) : Bx X (.BoolOp op es pos) σ F M k :=
  ⟨h.1, fun F1 H1 s w Q q => wt_of (PW.pt (pw_w _)) (h.2 F1 H1 s w Q q)⟩
theorem ev_if {Φ : Hp → V → Prop} {k : Bool} (hc : Bx X c σ F M k) (h1 : k = true → Ev X a σ F M Φ) (h2 : k = false → Ev X b σ F M Φ) : Ev X (.IfExp c a b pos) σ F M Φ :=
  fun F1 H1 s w Q q => we_of (pe_ifExp (pt_w c) (pe_w a) (pe_w b)) (hc.2 F1 H1 s w _ fun F2 H2 s2 w2 => by
    cases k with
    | true => exact h1 rfl F2 H2 (s.trans s2) w2 Q fun F3 H3 u s3 w3 hu => q F3 H3 u (s2.trans s3) w3 hu
    | false => exact h2 rfl F2 H2 (s.trans s2) w2 Q fun F3 H3 u s3 w3 hu => q F3 H3 u (s2.trans s3) w3 hu)

/-! argument lists -/
theorem ea_nil : EvA X [] σ F M fun _ vs => vs = [] := fun F1 H1 s w Q q => wa_of pa_nil (q F1 H1 _ (Same.refl _) w rfl)
theorem ea_cons {es : List Expr} {x : α} [m : Mono r] {Ψ : Hp → List V → Prop} (ha : EvF X a σ F M r x) (h : EvA X es σ F M Ψ) (hs : starEach (a :: es) X.env = (false, eval a X.env) :: starEach es X.env := by rfl) :
    EvA X (a :: es) σ F M fun F vs => ∃ v us, vs = v :: us ∧ r F v x ∧ Ψ F us :=
  fun F1 H1 s w Q q => wa_of (pa_cons (pe_w a) (pa_w es) hs) (ha F1 H1 s w _ fun F2 H2 v s2 w2 hv => h F2 H2 (s.trans s2) w2 _ fun F3 H3 us s3 w3 hu => q F3 H3 _ (s2.trans s3) w3 ⟨v, us, rfl, Mono.mono s3 hv, hu⟩)
/-- the arguments as one list of things of one kind -/
theorem ea_nilL : EvA X [] σ F M fun F vs => A2 (r F) vs [] := fun F1 H1 s w Q q => wa_of pa_nil (q F1 H1 _ (Same.refl _) w .nil)
theorem ea_consL {es : List Expr} {x : α} {xs : List α} [m : Mono r] (ha : EvF X a σ F M r x) (h : EvA X es σ F M fun F vs => A2 (r F) vs xs) (hs : starEach (a :: es) X.env = (false, eval a X.env) :: starEach es X.env := by rfl) :
    EvA X (a :: es) σ F M fun F vs => A2 (r F) vs (x :: xs) :=
  fun F1 H1 s w Q q => wa_of (pa_cons (pe_w a) (pa_w es) hs) (ha F1 H1 s w _ fun F2 H2 v s2 w2 hv => h F2 H2 (s.trans s2) w2 _ fun F3 H3 us s3 w3 hu => q F3 H3 _ (s2.trans s3) w3 (.cons (Mono.mono s3 hv) hu))
omit [Lams] in
theorem small_of {n : Nat} (h : n ≤ 1000000) : n ≤ sizeLine := Nat.le_trans h (by decide)
/-- a new list: its address is in neither part -/
def EvN (X : Cx) (e : Expr) (σ : L2.St) (F M : Hp) {α : Type} (r : Rep α) (xs : List α) : Prop :=
  ∀ F1 H1, Same F F1 → Own F1 M H1 → ∀ Q : VK, (∀ F2 H2 a vs, Same F1 F2 → Own F2 M H2 → F2 a = none → M a = none → H2 a = some (.lst vs) → A2 (r F2) vs xs → Q (.ref a) H2) → WE X e σ H1 Q
theorem Own.keepF {F M H : Hp} {a : Addr} {o : HO} (w : Own F M H) (h1 : F a = none) (h2 : M a = none) (h : H a = some o) (ho : ntb o = true := by rfl) : Own (upd F a o) M H :=
  ⟨fun b x e => by
    by_cases q : b = a
    · subst q; rw [upd_same] at e; cases e; exact h
    · rw [upd_ne q] at e; exact w.f b x e, w.m, fun b x e => by
    by_cases q : b = a
    · subst q; rw [h2] at e; cases e
    · rw [upd_ne q]; exact w.d b x e, w.t, w.b, ntb_upd w.u ho⟩
theorem Own.keepM {F M H : Hp} {a : Addr} {o : HO} (w : Own F M H) (h1 : F a = none) (h2 : M a = none) (h : H a = some o) (ho : mine o = true := by rfl) : Own F (upd M a o) H :=
  ⟨w.f, fun b x e => by
    by_cases q : b = a
    · subst q; rw [upd_same] at e; cases e; exact h
    · rw [upd_ne q] at e; exact w.m b x e, fun b x e => by
    by_cases q : b = a
    · subst q; exact h1
    · rw [upd_ne q] at e; exact w.d b x e, mine_upd w.t ho, w.b, w.u⟩
theorem EvN.fz {xs : List α} [m : Mono r] (h : EvN X e σ F M r xs) : EvF X e σ F M (lR r) xs := fun F1 H1 s w Q q => h F1 H1 s w Q fun F2 H2 a vs s2 w2 n1 n2 hh h2 =>
  q _ H2 _ (s2.trans (same_new n1)) (w2.keepF n1 n2 hh) ⟨a, vs, rfl, upd_same, h2.up (same_new n1)⟩
theorem en_lst {es : List Expr} {xs : List α} [m : Mono r] (h : EvA X es σ F M fun F vs => A2 (r F) vs xs) (hl : xs.length ≤ 1000000 := by simp) : EvN X (.List es pos) σ F M r xs :=
  fun F1 H1 s w Q q => we_of (pe_lst (pa_w es)) (h F1 H1 s w _ fun F2 H2 vs s2 w2 hv => ⟨small_of (by rw [hv.len]; exact hl), fun p hp => by
    refine q F2 _ p vs s2 ?_ (w2.noF hp) (w2.noM hp) upd_same hv
    exact (w2.more hp)⟩)
theorem ev_t2 {a b : Expr} {x : α} {y : β} {x1} [m : Mono r] [n : Mono s] (ha : EvF X a σ F M r x) (hb : EvF X b σ F M s y) (hs : starEach [a, b] X.env = (false, eval a X.env) :: starEach [b] X.env := by rfl) (hs2 : starEach [b] X.env = (false, eval b X.env) :: starEach [] X.env := by rfl) :
    EvF X (.Tuple [a, b] x1 pos) σ F M (t2R r s) (x, y) :=
  fun F1 H1 s w Q q => we_of (pe_tup (pa_w [a, b])) (ea_cons ha (ea_cons hb ea_nil hs2) hs F1 H1 s w _ fun F2 H2 vs s2 w2 ⟨v, us, e1, h1, u, us2, e2, h2, e3⟩ => by
    subst e1 e2 e3
    refine ⟨small_of (by simp), fun p hp => ?_⟩
    exact q _ _ _ (s2.trans (same_new (w2.noF hp))) (w2.newF hp) ⟨p, v, u, rfl, upd_same, Mono.mono (same_new (w2.noF hp)) h1, Mono.mono (same_new (w2.noF hp)) h2⟩)
theorem ev_t3 {γ : Type} {t : Rep γ} {a b c : Expr} {x : α} {y : β} {z : γ} {x1} [m : Mono r] [n : Mono s] [k : Mono t] (ha : EvF X a σ F M r x) (hb : EvF X b σ F M s y) (hc : EvF X c σ F M t z) (hs : starEach [a, b, c] X.env = (false, eval a X.env) :: starEach [b, c] X.env := by rfl)
    (hs1 : starEach [b, c] X.env = (false, eval b X.env) :: starEach [c] X.env := by rfl) (hs2 : starEach [c] X.env = (false, eval c X.env) :: starEach [] X.env := by rfl) :
    EvF X (.Tuple [a, b, c] x1 pos) σ F M (t3R r s t) (x, y, z) :=
  fun F1 H1 s w Q q => we_of (pe_tup (pa_w [a, b, c])) (ea_cons ha (ea_cons hb (ea_cons hc ea_nil hs2) hs1) hs F1 H1 s w _ fun F2 H2 vs s2 w2 ⟨v, us, e1, h1, u, us2, e2, h2, u3, us3, e3, h3, e4⟩ => by
    subst e1 e2 e3 e4
    refine ⟨small_of (by simp), fun p hp => ?_⟩
    exact q _ _ _ (s2.trans (same_new (w2.noF hp))) (w2.newF hp) ⟨p, v, u, u3, rfl, upd_same, Mono.mono (same_new (w2.noF hp)) h1, Mono.mono (same_new (w2.noF hp)) h2, Mono.mono (same_new (w2.noF hp)) h3⟩)
end
end Y

namespace Y
open PySem PySem.Spec PyProof.Rows L2
section
variable [Lams] {X : Cx} {σ : L2.St} {F M : Hp} {a b c e : Expr} {pos p : Pos} {α β γ : Type} {r : Rep α} {s : Rep β} {t : Rep γ} {x n : Str}

/-! ### built-ins that are called by name -/
theorem ev_len {xs : List α} (hm : X.mg "len" = none) (ha : EvF X a σ F M (rdR X.K M r) xs) (hg : Gl X "len" := by rfl) (he : starEach [a] X.env = (false, eval a X.env) :: starEach [] X.env := by rfl) (hpl : (backTo pos (starEach [] X.env)).any (·.1) = false := by rfl) :
    EvF X (.Call (.Name "len" p) [a] [] pos) σ F M iR (xs.length : Int) :=
  fun F1 H1 s w Q q => we_of (pe_callB call_len_seq hg hm PySem.boot_len (pa_cons (pe_w a) pa_nil he) (he := he) (hpl := hpl)) (ha F1 H1 s w _ fun F2 H2 v s2 w2 ⟨l, vs, e, hl, h2⟩ =>
    ⟨l, vs, by rw [e], .inl (w2.sq hl), q F2 H2 _ s2 w2 (by show V.int _ = V.int _; rw [h2.len])⟩)
/-- list(xs): a new one -/
theorem en_list {xs : List α} [m : Mono r] (hm : X.mg "list" = none) (ha : EvF X a σ F M (rdR X.K M r) xs) (hg : Gl X "list" := by rfl) (he : starEach [a] X.env = (false, eval a X.env) :: starEach [] X.env := by rfl) (hpl : (backTo pos (starEach [] X.env)).any (·.1) = false := by rfl) :
    EvN X (.Call (.Name "list" p) [a] [] pos) σ F M r xs :=
  fun F1 H1 s w Q q => we_of (pe_callTy call_list_of hg hm (by decide +kernel) (pa_cons (pe_w a) pa_nil he) (he := he) (hpl := hpl)) (ha F1 H1 s w _ fun F2 H2 v s2 w2 ⟨l, vs, e, hl, h2⟩ =>
    ⟨l, vs, by rw [e], .inl (w2.sq hl), fun l hp => q F2 _ l vs s2 (w2.more hp) (w2.noF hp) (w2.noM hp) upd_same h2⟩)
theorem ev_max2 {i j : Int} (hc : X.calm = true) (hm : X.mg "max" = none) (ha : EvF X a σ F M iR i) (hb : EvF X b σ F M iR j) (hg : Gl X "max" := by rfl) (he : starEach [a, b] X.env = (false, eval a X.env) :: starEach [b] X.env := by rfl) (he2 : starEach [b] X.env = (false, eval b X.env) :: starEach [] X.env := by rfl) (hpl : (backTo pos (starEach [b] X.env)).any (·.1) = false := by rfl) :
    EvF X (.Call (.Name "max" p) [a, b] [] pos) σ F M iR (max i j) :=
  fun F1 H1 s w Q q => we_of (pe_callB (call_max2 hc) hg hm (by decide +kernel) (pa_cons (pe_w a) (pa_cons (pe_w b) pa_nil he2) he) (he := he) (hpl := hpl)) (ha F1 H1 s w _ fun F2 H2 v s2 w2 hv => hb F2 H2 (s.trans s2) w2 _ fun F3 H3 u s3 w3 hu =>
    ⟨i, j, by rw [show v = V.int i from hv, show u = V.int j from hu], q F3 H3 _ (s2.trans s3) w3 (by show V.int _ = V.int _; congr 1; rw [Int.max_def]; split <;> split <;> omega)⟩)
end

/-! ### statements -/
section
variable [Lams] {X : Cx} {σ σ' : L2.St} {F M H : Hp} {a b c e : Expr} {pos p : Pos} {α β γ : Type} {r : Rep α} {n : Str} {rest : List Stmt} {D : Ends}
omit [Lams] in
theorem ss_nil (h : D.nx σ H) : WSs X [] D σ H := wss_nil h
theorem ss_set (i : Nat) {Φ : Hp → V → Prop} (he : Ev X e σ F M Φ) (w : Own F M H) (k : ∀ F2 H2 v, Same F F2 → Own F2 M H2 → Φ F2 v → WSs X rest D (σ.set i (some v)) H2)
    (hN : X.N.Nodup) (hi : X.N[i]? = some n := by rfl) (hx : Loc X.env.scope n := by first | exact Or.inl rfl | exact Or.inr rfl) (hs : swapsWith e (some (.Name n p)) pos.line X.env = pure false := by rfl) (hf : X.fn n = true ∨ X.env.scope.names.lookup n = some .local := by first | exact .inl rfl | exact .inr rfl) :
    WSs X (.Assign [.Name n p] e pos :: rest) D σ H :=
  wss_cons (ws_of (ps_set hN hi hx (pe_w e) hs hf) (he F H (Same.refl _) w _ fun F2 H2 v s2 w2 hv => k F2 H2 v s2 w2 hv))
/-- a number, a truth: what stands for good need not grow -/
theorem ss_setI (i : Nat) {x : Int} (he : EvF X e σ F M iR x) (w : Own F M H) (k : ∀ H2, Own F M H2 → WSs X rest D (σ.set i (some (.int x))) H2)
    (hN : X.N.Nodup) (hi : X.N[i]? = some n := by rfl) (hx : Loc X.env.scope n := by first | exact Or.inl rfl | exact Or.inr rfl) (hs : swapsWith e (some (.Name n p)) pos.line X.env = pure false := by rfl) (hf : X.fn n = true ∨ X.env.scope.names.lookup n = some .local := by first | exact .inl rfl | exact .inr rfl) :
    WSs X (.Assign [.Name n p] e pos :: rest) D σ H :=
  ss_set i he w (fun F2 H2 v s2 w2 hv => by cases (show v = V.int x from hv); exact k H2 (w2.lessF s2)) hN hi hx hs hf
/-- a new list, to be one's own -/
theorem ss_setN (i : Nat) {xs : List α} (he : EvN X e σ F M r xs) (w : Own F M H) (k : ∀ F2 H2 l vs, Same F F2 → M l = none → Own F2 (upd M l (.lst vs)) H2 → A2 (r F2) vs xs → WSs X rest D (σ.set i (some (.ref l))) H2)
    (hN : X.N.Nodup) (hi : X.N[i]? = some n := by rfl) (hx : Loc X.env.scope n := by first | exact Or.inl rfl | exact Or.inr rfl) (hs : swapsWith e (some (.Name n p)) pos.line X.env = pure false := by rfl) (hf : X.fn n = true ∨ X.env.scope.names.lookup n = some .local := by first | exact .inl rfl | exact .inr rfl) :
    WSs X (.Assign [.Name n p] e pos :: rest) D σ H :=
  wss_cons (ws_of (ps_set hN hi hx (pe_w e) hs hf) (he F H (Same.refl _) w _ fun F2 H2 l vs s2 w2 n1 n2 hh h2 => k F2 H2 l vs s2 n2 (w2.keepM n1 n2 hh) h2))
theorem ss_ret {Φ : Hp → V → Prop} (he : Ev X e σ F M Φ) (w : Own F M H) (k : ∀ F2 H2 v, Same F F2 → Own F2 M H2 → Φ F2 v → D.rt v H2) : WSs X (.Return (some e) pos :: rest) D σ H :=
  wss_cons (ws_of (ps_ret (pe_w e)) (he F H (Same.refl _) w _ fun F2 H2 v s2 w2 hv => k F2 H2 v s2 w2 hv))
theorem ss_if {th el : List Stmt} {k : Bool} (hc : Bx X c σ F M k) (w : Own F M H) (h1 : k = true → ∀ H2, Own F M H2 → WSs X th (thn X rest D) σ H2) (h2 : k = false → ∀ H2, Own F M H2 → WSs X el (thn X rest D) σ H2) :
    WSs X (.If c th el pos :: rest) D σ H :=
  wss_cons (ws_of (ps_if (pt_w c) (pss_w th) (pss_w el)) (hc.2 F H (Same.refl _) w _ fun F2 H2 s2 w2 => by
    cases k with
    | true => exact h1 rfl H2 (w2.lessF s2)
    | false => exact h2 rfl H2 (w2.lessF s2)))
theorem ss_append {l : Addr} {vs : List V} {x : α} (i : Nat) {cpos apos npos : Pos} (hs : σ[i]? = some (some (.ref l))) (hM : M l = some (.lst vs)) (he : EvF X e σ F M r x) (w : Own F M H) (hz : vs.length < 1000000)
    (k : ∀ F2 M2 H2 v, Same F F2 → M2 = upd M l (.lst (vs ++ [v])) → Own F2 M2 H2 → r F2 v x → WSs X rest D σ H2) (hN : X.N[i]? = some n := by rfl)
    (hv : Vis X.env.scope n := by first | exact Or.inl rfl | exact Or.inr (Or.inl rfl) | exact Or.inr (Or.inr rfl)) (hd : (n == ("__debug__" : Str)) = false := by decide) (hcd : (n == ("__classdict__" : Str)) = false := by decide)
    (hbase : attributeBase (.Name n npos) "append" X.env (eval (.Name n npos) X.env) = eval (.Name n npos) X.env := by rfl)
    (hfew : ((backTo cpos (starEach [e] X.env)).all (fun x => !x.1) && (backToKw cpos (keywordEach [] X.env)).all (fun x => x.1.isSome)
      && decide ([e].length + ([] : List Keyword).length + (if ([] : List Keyword).isEmpty then 0 else 1) < 30)) = true := by rfl)
    (hline : (apos.endLine == cpos.line) = true := by rfl) (hst : starEach [e] X.env = (false, eval e X.env) :: starEach [] X.env := by rfl) (hplain : (backTo cpos (starEach [] X.env)).any (·.1) = false := by rfl)
    (hsw : swapsWith (.Call (.Attribute (.Name n npos) "append" apos) [e] [] cpos) none pos.line X.env = pure false := by rfl) :
    WSs X (.Expr (.Call (.Attribute (.Name n npos) "append" apos) [e] [] cpos) pos :: rest) D σ H :=
  wss_cons (ws_of (ps_expr (pe_bm PySem.F.plainAttrs_list PySem.F.slot_list_append PySem.F.type_list_append mt_append (pe_var hN hv hd hcd) (pa_cons (pe_w e) pa_nil hst) hbase hfew hline hst hplain) hsw)
    ⟨_, hs, .inl ⟨rfl, _, SqL.of (w.m _ _ hM)⟩, he F H (Same.refl _) w _ fun F2 H2 v s2 w2 hv => ⟨l, vs, v, rfl, rfl, w2.m _ _ hM, Nat.lt_of_lt_of_le hz (by decide), k F2 _ _ v s2 rfl (w2.put hM) hv⟩⟩)

/-! ### what is walked -/
def WI (X : Cx) (tg it : Expr) : TI := fun σ H R => ∀ (pins : List (Addr × Obj)) (s : Shared), Inv X pins σ H s →
  wpAny (model X.prog X.w) X.A (eval it X.env) (fun v s1 => wpAny (model X.prog X.w) X.A (pyIter v) (PIE X pins σ tg R) X.xe s1) X.xe s
omit [Lams] in
theorem pi_w (tg it : Expr) : PI X tg it (WI X tg it) := ⟨fun pins s σ H R I h => h pins s I⟩
omit [Lams] in
theorem wi_of {tg it : Expr} {wi : TI} {R : It → Hp → Prop} (p : PI X tg it wi) (h : wi σ H R) : WI X tg it σ H R := fun pins s I => p.run pins s σ H R I h
/-- an iterator that gives these things, whatever is done meanwhile -/
def Yields (F0 : Hp) (J : It) {α : Type} (r : Rep α) (xs : List α) : Prop :=
  ∀ i F M H, Same F0 F → Own F M H → (xs.length ≤ i → J.stop i H) ∧ ∀ x, xs[i]? = some x → J.go i H ∧ ∀ v H', J.yld i H v H' → ∃ F', Same F F' ∧ Own F' M H' ∧ r F' v x
def EvI (X : Cx) (tg it : Expr) (σ : L2.St) (F M : Hp) {α : Type} (r : Rep α) (xs : List α) : Prop :=
  ∀ F1 H1, Same F F1 → Own F1 M H1 → ∀ R : It → Hp → Prop, (∀ F2 H2 J, Same F1 F2 → Own F2 M H2 → Yields F2 J r xs → R J H2) → WI X tg it σ H1 R
theorem ei_list {tg it : Expr} {xs : List α} [m : Mono r] (he : EvF X it σ F M (rsR X.K r) xs) : EvI X tg it σ F M r xs :=
  fun F1 H1 s w R q => wi_of (pi_list (pe_w it)) (he F1 H1 s w _ fun F2 H2 v s2 w2 ⟨l, vs, e, hl, h2⟩ => ⟨l, e, ⟨vs, Same.sql w2.f hl⟩, q F2 H2 _ s2 w2 fun i F3 M3 H3 s3 w3 =>
    ⟨fun hi => ⟨vs, Same.sql w3.f (Same.sql s3 hl), by rw [h2.len]; exact hi⟩, fun x hx => by
      obtain ⟨u, hu, hr⟩ := h2.get hx
      refine ⟨⟨vs, u, Same.sql w3.f (Same.sql s3 hl), hu⟩, fun v' H' hy => ?_⟩
      obtain ⟨rfl, hy⟩ := hy
      have e2 := hy vs (Same.sql w3.f (Same.sql s3 hl))
      rw [hu] at e2
      cases e2
      exact ⟨F3, Same.refl _, w3, Mono.mono s3 hr⟩⟩⟩)
/-- lo, lo + 1, .., so many -/
def rng (lo : Int) (n : Nat) : List Int := (List.range n).map fun (i : Nat) => lo + i
omit [Lams] in
theorem rng_len {lo : Int} {n : Nat} : (rng lo n).length = n := by unfold rng; simp
omit [Lams] in
theorem rng_get {lo : Int} {n i : Nat} : (rng lo n)[i]? = if i < n then some (lo + (i : Int)) else none := by
  unfold rng
  rw [List.getElem?_map]
  by_cases h : i < n
  · rw [if_pos h, List.getElem?_range h]; rfl
  · rw [if_neg h, List.getElem?_eq_none (by simpa using h)]; rfl
omit [Lams] in
theorem rng_at {lo : Int} {n i : Nat} {k : Int} (h : (rng lo n)[i]? = some k) : i < n ∧ k = lo + (i : Int) := by
  rw [rng_get] at h
  by_cases hh : i < n
  · rw [if_pos hh] at h; cases h; exact ⟨hh, rfl⟩
  · rw [if_neg hh] at h; cases h
omit [Lams] in
theorem rng_mem {lo : Int} {n : Nat} {k : Int} (h : k ∈ rng lo n) : lo ≤ k ∧ k < lo + n := by
  obtain ⟨i, hi⟩ := List.getElem?_of_mem h
  obtain ⟨h1, h2⟩ := rng_at hi
  omega
theorem yields_r {F : Hp} {lo : Int} {n : Nat} : Yields F (Itr lo n) iR (rng lo n) := fun i F3 M3 H3 s3 w3 =>
  ⟨fun hi => by rw [rng_len] at hi; exact hi, fun x hx => by
    rw [rng_get] at hx
    by_cases h : i < n
    · rw [if_pos h] at hx
      cases hx
      refine ⟨h, fun v H' hy => ?_⟩
      obtain ⟨rfl, rfl⟩ := hy
      exact ⟨F3, Same.refl _, w3, rfl⟩
    · rw [if_neg h] at hx; cases hx⟩
theorem ei_range1 {tg : Expr} {j : Int} (hm : X.mg "range" = none) (ha : EvF X a σ F M iR j) (hj : -(2 ^ 62) ≤ j ∧ j < 2 ^ 62) (hg : Gl X "range" := by rfl) (hs : starEach [a] X.env = [(false, eval a X.env)] := by rfl) (hs2 : starEach [a] X.env = (false, eval a X.env) :: starEach [] X.env := by rfl) :
    EvI X tg (.Call (.Name "range" p) [a] [] pos) σ F M iR (rng 0 j.toNat) :=
  fun F1 H1 s w R q => wi_of (pi_range1 hg hm (pa_cons (pe_w a) pa_nil hs2) hs) (ha F1 H1 s w _ fun F2 H2 v s2 w2 hv => ⟨j, by rw [show v = V.int j from hv], hj.1, hj.2, q F2 H2 _ s2 w2 yields_r⟩)
theorem ei_range2 {tg : Expr} {i j : Int} (hm : X.mg "range" = none) (ha : EvF X a σ F M iR i) (hb : EvF X b σ F M iR j) (hj : -(2 ^ 62) ≤ i ∧ i < 2 ^ 62 ∧ -(2 ^ 62) ≤ j ∧ j < 2 ^ 62) (hg : Gl X "range" := by rfl) (hs : starEach [a, b] X.env = [(false, eval a X.env), (false, eval b X.env)] := by rfl) (hs2 : starEach [b] X.env = [(false, eval b X.env)] := by rfl) :
    EvI X tg (.Call (.Name "range" p) [a, b] [] pos) σ F M iR (rng i (j - i).toNat) :=
  fun F1 H1 s w R q => wi_of (pi_range2 hg hm (pa_cons (pe_w a) (pa_cons (pe_w b) pa_nil (by rw [hs2]; rfl)) (by rw [hs, hs2])) hs hs2) (ha F1 H1 s w _ fun F2 H2 v s2 w2 hv => hb F2 H2 (s.trans s2) w2 _ fun F3 H3 u s3 w3 hu =>
    ⟨i, j, by rw [show v = V.int i from hv, show u = V.int j from hu], hj, q F3 H3 _ (s2.trans s3) w3 yields_r⟩)

/-! ### for -/
/-- the ends of a loop's body: N behind a turn; behind the loop what stands there -/
def lpe (X : Cx) (rest : List Stmt) (D : Ends) (N : L2.St → Hp → Prop) : Ends := { D with nx := N, ct := N, bk := WSs X rest D }
def Nx (F : Hp) (I : Nat → Hp → Hp → L2.St → Prop) (i : Nat) : L2.St → Hp → Prop := fun σ H => ∃ F2 M2, Same F F2 ∧ Own F2 M2 H ∧ I i F2 M2 σ
theorem ss_for_core {tg it : Expr} {body : List Stmt} {g : TG} {xs : List α} (he : EvI X tg it σ F M r xs) (w : Own F M H) (I : Nat → Hp → Hp → L2.St → Prop) (hg : PG X tg g)
    (h0 : ∀ F1, Same F F1 → I 0 F1 M σ)
    (hs : ∀ F0 i x v F1 M1 H1 σ1, Same F F0 → xs[i]? = some x → (∀ F2, Same F1 F2 → I i F2 M1 σ1) → Same F0 F1 → Own F1 M1 H1 → r F1 v x → g v σ1 H1 fun σ2 H2 => WSs X body (lpe X rest D (Nx F0 I (i + 1))) σ2 H2)
    (hd : ∀ F1 M1 H1 σ1, Same F F1 → Own F1 M1 H1 → I xs.length F1 M1 σ1 → WSs X rest D σ1 H1)
    (up : ∀ i F1 F2 M1 σ1, Same F1 F2 → I i F1 M1 σ1 → I i F2 M1 σ1)
    (hp : PassesOwn (model X.prog X.w) X.A X.env X.xe) (hc : X.calm = true := by rfl) (hf : ∀ x, foldedSetIterable it X.env x = pure x := by intro _; rfl) :
    WSs X (.For tg it body [] pos :: rest) D σ H := by
  refine wss_cons (ws_of (ps_for hp hc (pi_w tg it) hg (pss_w body) hf) (he F H (Same.refl _) w _ fun F2 H2 J s2 w2 hy => ?_))
  refine ⟨fun i m σ' H' => m = xs.length - i ∧ i ≤ xs.length ∧ Nx F2 I i σ' H', ⟨xs.length, by simp, Nat.zero_le _, F2, M, Same.refl _, w2, h0 F2 s2⟩, ?_⟩
  rintro i m σ' H' ⟨rfl, hi, F3, M3, s3, w3, hI⟩
  obtain ⟨y1, y2⟩ := hy i F3 M3 H' s3 w3
  by_cases hlt : i < xs.length
  · obtain ⟨g1, g2⟩ := y2 xs[i] (by simp [hlt])
    refine .inr ⟨g1, Nx F2 I (i + 1), fun σ4 H4 n4 => ⟨xs.length - (i + 1), by omega, rfl, hlt, n4⟩, fun v H4 hv => ?_⟩
    obtain ⟨F4, s4, w4, hr⟩ := g2 v H4 hv
    exact hs F2 i xs[i] v F4 M3 H4 σ' s2 (by simp [hlt]) (fun F5 s5 => up i F3 F5 M3 σ' (s4.trans s5) hI) (s3.trans s4) w4 hr
  · have e : i = xs.length := by omega
    subst e
    exact .inl ⟨y1 (Nat.le_refl _), hd F3 M3 H' σ' (s2.trans s3) w3 hI⟩
/-- for x in ..: x in slot j -/
theorem ss_for (j : Nat) {it : Expr} {body : List Stmt} {xs : List α} (he : EvI X (.Name n p) it σ F M r xs) (w : Own F M H) (I : Nat → Hp → Hp → L2.St → Prop)
    (h0 : ∀ F1, Same F F1 → I 0 F1 M σ) (up : ∀ i F1 F2 M1 σ1, Same F1 F2 → I i F1 M1 σ1 → I i F2 M1 σ1)
    (hs : ∀ F0 i x v F1 M1 H1 σ1, Same F F0 → xs[i]? = some x → I i F1 M1 σ1 → Same F0 F1 → Own F1 M1 H1 → r F1 v x → WSs X body (lpe X rest D (Nx F0 I (i + 1))) (σ1.set j (some v)) H1)
    (hd : ∀ F1 M1 H1 σ1, Same F F1 → Own F1 M1 H1 → I xs.length F1 M1 σ1 → WSs X rest D σ1 H1)
    (hp : PassesOwn (model X.prog X.w) X.A X.env X.xe) (hN : X.N.Nodup) (hi : X.N[j]? = some n := by rfl) (hx : Loc X.env.scope n := by first | exact Or.inl rfl | exact Or.inr rfl)
    (hfn : X.fn n = true ∨ X.env.scope.names.lookup n = some .local := by first | exact .inl rfl | exact .inr rfl) (hc : X.calm = true := by rfl) (hf : ∀ x, foldedSetIterable it X.env x = pure x := by intro _; rfl) :
    WSs X (.For (.Name n p) it body [] pos :: rest) D σ H :=
  ss_for_core he w I (pg_name hN hi hx hfn) h0 (fun F0 i x v F1 M1 H1 σ1 s0 hx hI s1 w1 hr => hs F0 i x v F1 M1 H1 σ1 s0 hx (hI F1 (Same.refl _)) s1 w1 hr) hd up hp hc hf
theorem ss_for2 {β γ : Type} {r1 : Rep β} {r2 : Rep γ} (j k : Nat) {n2 : Str} {p2 p3 : Pos} {ki} {it : Expr} {body : List Stmt} {xs : List (β × γ)} (he : EvI X (.Tuple [.Name n p, .Name n2 p2] ki p3) it σ F M (t2R r1 r2) xs) (w : Own F M H) (I : Nat → Hp → Hp → L2.St → Prop)
    (h0 : ∀ F1, Same F F1 → I 0 F1 M σ) (up : ∀ i F1 F2 M1 σ1, Same F1 F2 → I i F1 M1 σ1 → I i F2 M1 σ1)
    (hs : ∀ F0 i x y u v F1 M1 H1 σ1, Same F F0 → xs[i]? = some (x, y) → I i F1 M1 σ1 → Same F0 F1 → Own F1 M1 H1 → r1 F1 u x → r2 F1 v y → WSs X body (lpe X rest D (Nx F0 I (i + 1))) ((σ1.set j (some u)).set k (some v)) H1)
    (hd : ∀ F1 M1 H1 σ1, Same F F1 → Own F1 M1 H1 → I xs.length F1 M1 σ1 → WSs X rest D σ1 H1)
    (hp : PassesOwn (model X.prog X.w) X.A X.env X.xe) (hN : X.N.Nodup) (hi : X.N[j]? = some n := by rfl) (hx : Loc X.env.scope n := by first | exact Or.inl rfl | exact Or.inr rfl) (hi2 : X.N[k]? = some n2 := by rfl) (hx2 : Loc X.env.scope n2 := by first | exact Or.inl rfl | exact Or.inr rfl)
    (hfn : X.fn n = true ∨ X.env.scope.names.lookup n = some .local := by first | exact .inl rfl | exact .inr rfl) (hfn2 : X.fn n2 = true ∨ X.env.scope.names.lookup n2 = some .local := by first | exact .inl rfl | exact .inr rfl)
    (hc : X.calm = true := by rfl) (hf : ∀ x, foldedSetIterable it X.env x = pure x := by intro _; rfl)
    (q1 : (assignEach [.Name n p, .Name n2 p2] X.env).map (·.2) = assign (.Name n p) X.env :: (assignEach [.Name n2 p2] X.env).map (·.2) := by rfl) (q2 : (assignEach [.Name n2 p2] X.env).map (·.2) = assign (.Name n2 p2) X.env :: (assignEach [] X.env).map (·.2) := by rfl)
    (q3 : (assignEach [.Name n p, .Name n2 p2] X.env).length = 2 := by rfl) (q4 : (assignEach [.Name n p, .Name n2 p2] X.env).findIdx? (·.1) = none := by rfl) :
    WSs X (.For (.Tuple [.Name n p, .Name n2 p2] ki p3) it body [] pos :: rest) D σ H :=
  ss_for_core he w I (pg_tup hc (pgs_cons (pg_name hN hi hx hfn) (pgs_cons (pg_name hN hi2 hx2 hfn2) pgs_nil q2) q1) q3 q4) h0 (fun F0 i x v F1 M1 H1 σ1 s0 hx hI s1 w1 ⟨l, u1, u2, e, hl, h1, h2⟩ =>
    ⟨l, _, e, SqT.of (w1.f _ _ hl), rfl, u1, _, rfl, u2, _, rfl, rfl, hs F0 i x.1 x.2 u1 u2 F1 M1 H1 σ1 s0 hx (hI F1 (Same.refl _)) s1 w1 h1 h2⟩) hd up hp hc hf
theorem ss_for3 {β γ δ : Type} {r1 : Rep β} {r2 : Rep γ} {r3 : Rep δ} (j k l : Nat) {n2 n3 : Str} {p2 p3 p4 : Pos} {ki} {it : Expr} {body : List Stmt} {xs : List (β × γ × δ)} (he : EvI X (.Tuple [.Name n p, .Name n2 p2, .Name n3 p3] ki p4) it σ F M (t3R r1 r2 r3) xs) (w : Own F M H) (I : Nat → Hp → Hp → L2.St → Prop)
    (h0 : ∀ F1, Same F F1 → I 0 F1 M σ) (up : ∀ i F1 F2 M1 σ1, Same F1 F2 → I i F1 M1 σ1 → I i F2 M1 σ1)
    (hs : ∀ F0 i x y z u v t F1 M1 H1 σ1, Same F F0 → xs[i]? = some (x, y, z) → I i F1 M1 σ1 → Same F0 F1 → Own F1 M1 H1 → r1 F1 u x → r2 F1 v y → r3 F1 t z → WSs X body (lpe X rest D (Nx F0 I (i + 1))) (((σ1.set j (some u)).set k (some v)).set l (some t)) H1)
    (hd : ∀ F1 M1 H1 σ1, Same F F1 → Own F1 M1 H1 → I xs.length F1 M1 σ1 → WSs X rest D σ1 H1)
    (hp : PassesOwn (model X.prog X.w) X.A X.env X.xe) (hN : X.N.Nodup) (hi : X.N[j]? = some n := by rfl) (hx : Loc X.env.scope n := by first | exact Or.inl rfl | exact Or.inr rfl) (hi2 : X.N[k]? = some n2 := by rfl) (hx2 : Loc X.env.scope n2 := by first | exact Or.inl rfl | exact Or.inr rfl) (hi3 : X.N[l]? = some n3 := by rfl) (hx3 : Loc X.env.scope n3 := by first | exact Or.inl rfl | exact Or.inr rfl)
    (hfn : X.fn n = true ∨ X.env.scope.names.lookup n = some .local := by first | exact .inl rfl | exact .inr rfl) (hfn2 : X.fn n2 = true ∨ X.env.scope.names.lookup n2 = some .local := by first | exact .inl rfl | exact .inr rfl) (hfn3 : X.fn n3 = true ∨ X.env.scope.names.lookup n3 = some .local := by first | exact .inl rfl | exact .inr rfl)
    (hc : X.calm = true := by rfl) (hf : ∀ x, foldedSetIterable it X.env x = pure x := by intro _; rfl)
    (q1 : (assignEach [.Name n p, .Name n2 p2, .Name n3 p3] X.env).map (·.2) = assign (.Name n p) X.env :: (assignEach [.Name n2 p2, .Name n3 p3] X.env).map (·.2) := by rfl) (q2 : (assignEach [.Name n2 p2, .Name n3 p3] X.env).map (·.2) = assign (.Name n2 p2) X.env :: (assignEach [.Name n3 p3] X.env).map (·.2) := by rfl) (q2' : (assignEach [.Name n3 p3] X.env).map (·.2) = assign (.Name n3 p3) X.env :: (assignEach [] X.env).map (·.2) := by rfl)
    (q3 : (assignEach [.Name n p, .Name n2 p2, .Name n3 p3] X.env).length = 3 := by rfl) (q4 : (assignEach [.Name n p, .Name n2 p2, .Name n3 p3] X.env).findIdx? (·.1) = none := by rfl) :
    WSs X (.For (.Tuple [.Name n p, .Name n2 p2, .Name n3 p3] ki p4) it body [] pos :: rest) D σ H :=
  ss_for_core he w I (pg_tup hc (pgs_cons (pg_name hN hi hx hfn) (pgs_cons (pg_name hN hi2 hx2 hfn2) (pgs_cons (pg_name hN hi3 hx3 hfn3) pgs_nil q2') q2) q1) q3 q4) h0 (fun F0 i x v F1 M1 H1 σ1 s0 hx hI s1 w1 ⟨l', u1, u2, u3, e, hl, h1, h2, h3⟩ =>
    ⟨l', _, e, SqT.of (w1.f _ _ hl), rfl, u1, _, rfl, u2, _, rfl, u3, _, rfl, rfl, hs F0 i x.1 x.2.1 x.2.2 u1 u2 u3 F1 M1 H1 σ1 s0 hx (hI F1 (Same.refl _)) s1 w1 h1 h2 h3⟩) hd up hp hc hf
end
end Y

namespace Y
open PySem PySem.Spec PyProof.Rows L2
/-! ### comprehensions -/
section
variable [Lams] {X : Cx} {σ : L2.St} {F M : Hp} {a b c e : Expr} {pos p : Pos} {α β γ δ : Type} {r : Rep α} {s : Rep β} {n : Str}
/-- the context of a comprehension's block -/
def Blk (X : Cx) (scope : Scope) (Y : Cx) : Prop := ∃ (s : Shared) (H : Hp) (C : Addr) (cl : List (Str × Addr)) (fp : List Addr), Y = X.blk s H scope (compEnvC scope cl C X.env) fp
def wTs (X : Cx) (scope : Scope) (ifs : List Expr) : TT := fun σ H Q => ∀ Y, Blk X scope Y → WTs Y ifs σ H Q
def wE (X : Cx) (scope : Scope) (elt : Expr) : TE := fun σ H Q => ∀ Y, Blk X scope Y → WE Y elt σ H Q
theorem lc_run {Fb : Hp} (hb : Sub F Fb) {elt tg iter : Expr} {ifs : List Expr} {scope : Scope} (own : List (Str × Nat)) {g : TG} {xs : List α} [m : Mono s] (pr : α → Bool) (f : α → β)
    (hi : EvI X tg iter σ Fb M r xs)
    (ht : ∀ x v F1 M1 H1, x ∈ xs → Sub F F1 → Same M M1 → Own F1 M1 H1 → r F1 v x → ∀ R : L2.St → Hp → Prop, (∀ σ2, wipe σ2 (own.map (·.2)) = wipe σ (own.map (·.2)) → (∀ Y, Blk X scope Y → EvTs Y ifs σ2 F1 M1 (pr x)) → (pr x = true → ∀ Y, Blk X scope Y → EvF Y elt σ2 F1 M1 s (f x)) → R σ2 H1) → g v (wipe σ (own.map (·.2))) H1 R)
    (hl : xs.length < 1000000)
    {F1 H1 : Hp} (s1 : Same Fb F1) (w1 : Own F1 M H1) {Q : VK} (q : ∀ F2 H2 a vs, Same F1 F2 → Own F2 M H2 → F2 a = none → M a = none → H2 a = some (.lst vs) → A2 (s F2) vs ((xs.filter pr).map f) → Q (.ref a) H2) :
    tLc (WI X tg iter) g (wTs X scope ifs) (wE X scope elt) (own.map (·.2)) σ H1 Q := by
  refine hi F1 H1 s1 w1 _ fun F2 H2 J s2 w2 hy => ?_
  intro D hD
  have nF := w2.noF hD
  have nM := w2.noM hD
  refine ⟨fun i k H' => k = xs.length - i ∧ i ≤ xs.length ∧ ∃ F' acc, Same F2 F' ∧ Own F' (upd M D (.lst acc)) H' ∧ acc.length ≤ i ∧ A2 (s F') acc (((xs.take i).filter pr).map f),
    ⟨xs.length, by simp, Nat.zero_le _, F2, [], Same.refl _, w2.newM hD, Nat.le_refl _, by simpa using A2.nil⟩, ?_⟩
  rintro i k H' ⟨rfl, hi2, F3, acc, s3, w3, hla, hA⟩
  obtain ⟨y1, y2⟩ := hy i F3 _ H' s3 w3
  by_cases hlt : i < xs.length
  · have hget : xs[i]? = some xs[i] := by simp [hlt]
    obtain ⟨g1, g2⟩ := y2 xs[i] hget
    have htk : xs.take (i + 1) = xs.take i ++ [xs[i]] := by rw [List.take_add_one, hget]; rfl
    refine .inr ⟨g1, fun H5 => ∃ F' acc, Same F2 F' ∧ Own F' (upd M D (.lst acc)) H5 ∧ acc.length ≤ i + 1 ∧ A2 (s F') acc (((xs.take (i + 1)).filter pr).map f), ?_, fun v H4 hv => ?_⟩
    · rintro H5 ⟨F', acc', z⟩
      exact ⟨xs.length - (i + 1), by omega, rfl, hlt, F', acc', z⟩
    · obtain ⟨F4, s4, w4, hr⟩ := g2 v H4 hv
      refine ht xs[i] v F4 _ H4 (List.getElem_mem hlt) (hb.trans (Same.sub (((s1.trans s2).trans s3).trans s4))) (same_in (Same.refl M) nM) w4 hr _ fun σ2 hw h1 h2 => ⟨hw, ?_⟩
      intro Y hY
      refine h1 Y hY F4 H4 (Same.refl _) w4 _ fun F5 H5 s5 w5 => ?_
      cases hp : pr xs[i] with
      | false =>
        rw [if_neg Bool.false_ne_true]
        refine ⟨F5, acc, (s3.trans s4).trans s5, w5, by omega, ?_⟩
        rw [htk, List.filter_append]
        simp only [List.filter_cons, hp, List.filter_nil, Bool.false_eq_true, if_false, List.append_nil]
        exact hA.up (s4.trans s5)
      | true =>
        rw [if_pos rfl]
        intro Y2 hY2
        refine h2 hp Y2 hY2 F5 H5 s5 w5 _ fun F6 H6 u s6 w6 hu => ?_
        have hD6 : H6 D = some (.lst acc) := w6.m _ _ upd_same
        refine ⟨acc, hD6, Nat.lt_of_lt_of_le (show acc.length < 1000000 by omega) (by decide), F6, acc ++ [u], ((s3.trans s4).trans s5).trans s6, ?_, by simp; omega, ?_⟩
        · have := w6.put (p := D) (o := .lst (acc ++ [u])) upd_same
          rw [upd_upd] at this
          exact this
        · rw [htk, List.filter_append, List.map_append]
          simp only [List.filter_cons, hp, List.filter_nil, if_true, List.map_cons, List.map_nil]
          exact (hA.up ((s4.trans s5).trans s6)).push hu
  · have e : i = xs.length := by omega
    subst e
    refine .inl ⟨y1 (Nat.le_refl _), ?_⟩
    rw [List.take_length] at hA
    have wn : Own F3 M H' := w3.lessM (same_in (Same.refl M) nM)
    exact q F3 H' D acc (s2.trans s3) wn (w3.d D _ upd_same) nM (w3.m _ _ upd_same) hA
theorem en_lc_core {elt tg iter : Expr} {ifs : List Expr} {scope : Scope} (own : List (Str × Nat)) {g : TG} {xs : List α} [m : Mono s] (pr : α → Bool) (f : α → β)
    (hi : EvI X tg iter σ F M r xs)
    (hg : ∀ (s : Shared) (H : Hp) (C : Addr) (cl : List (Str × Addr)) (fp : List Addr), PG (X.blk s H scope (compEnvC scope cl C X.env) fp) tg g)
    (ht : ∀ x v F1 M1 H1, x ∈ xs → Sub F F1 → Same M M1 → Own F1 M1 H1 → r F1 v x → ∀ R : L2.St → Hp → Prop, (∀ σ2, wipe σ2 (own.map (·.2)) = wipe σ (own.map (·.2)) → (∀ Y, Blk X scope Y → EvTs Y ifs σ2 F1 M1 (pr x)) → (pr x = true → ∀ Y, Blk X scope Y → EvF Y elt σ2 F1 M1 s (f x)) → R σ2 H1) → g v (wipe σ (own.map (·.2))) H1 R)
    (hl : xs.length < 1000000) (hN : X.N.Nodup) (ok : BlkOk X.N X.env.scope scope own) (hc : X.calm = true := by rfl) (hs : ∀ x, foldedSetIterable iter X.env x = pure x := by intro _; rfl) :
    EvN X (.ListComp elt [⟨tg, iter, ifs, 0⟩] scope pos) σ F M s ((xs.filter pr).map f) := fun F1 H1 s1 w1 Q q =>
  we_of (pe_lc (g := g) (tt := wTs X scope ifs) (te := wE X scope elt) hc hN (pi_w tg iter) ok hg (fun s' H' C cl fp => ⟨fun pins s2 σ2 H2 Q2 I h => h _ ⟨s', H', C, cl, fp, rfl⟩ pins s2 I⟩) (fun s' H' C cl fp => ⟨fun pins s2 σ2 H2 Q2 I h => h _ ⟨s', H', C, cl, fp, rfl⟩ pins s2 I⟩) hs)
    (lc_run (Sub.refl F) own pr f hi ht hl s1 w1 q)
/-- y = [..] on one line, y in slot i, a plain local -/
theorem ss_lc_core (i : Nat) {y : Str} {py : Pos} {D : Ends} {rest : List Stmt} {spos : Pos} {H : Hp} {elt tg iter : Expr} {ifs : List Expr} {scope : Scope} (own : List (Str × Nat)) {g : TG} {xs : List α} [m : Mono s] (pr : α → Bool) (f : α → β)
    (hi : EvI X tg iter σ F M r xs)
    (hg : ∀ (s : Shared) (H : Hp) (C : Addr) (cl : List (Str × Addr)) (fp : List Addr), PG (X.blk s H scope (compEnvC scope cl C X.env) fp) tg g)
    (ht : ∀ x v F1 M1 H1, x ∈ xs → Sub F F1 → Same M M1 → Own F1 M1 H1 → r F1 v x → ∀ R : L2.St → Hp → Prop, (∀ σ2, wipe σ2 (own.map (·.2)) = wipe σ (own.map (·.2)) → (∀ Y, Blk X scope Y → EvTs Y ifs σ2 F1 M1 (pr x)) → (pr x = true → ∀ Y, Blk X scope Y → EvF Y elt σ2 F1 M1 s (f x)) → R σ2 H1) → g v (wipe σ (own.map (·.2))) H1 R)
    (hl : xs.length < 1000000) (hN : X.N.Nodup) (ok : BlkOk X.N X.env.scope scope own) (w : Own F M H)
    (k : ∀ F2 H2 l vs, Same F F2 → M l = none → Own F2 (upd M l (.lst vs)) H2 → A2 (s F2) vs ((xs.filter pr).map f) → WSs X rest D (σ.set i (some (.ref l))) H2)
    (hy : X.N[i]? = some y) (hyl : X.env.scope.names.lookup y = some .local) (hsw : swapsWith (.ListComp elt [⟨tg, iter, ifs, 0⟩] scope pos) (some (.Name y py)) spos.line X.env = pure true)
    (hc : X.calm = true := by rfl) (hs : ∀ x, foldedSetIterable iter X.env x = pure x := by intro _; rfl) :
    WSs X (.Assign [.Name y py] (.ListComp elt [⟨tg, iter, ifs, 0⟩] scope pos) spos :: rest) D σ H :=
  wss_cons (ws_of (ps_setLc (i := i) (g := g) (tt := wTs X scope ifs) (te := wE X scope elt) hc hN hy hyl hsw (pi_w tg iter) ok hg (fun s' H' C cl fp => ⟨fun pins s2 σ2 H2 Q2 I h => h _ ⟨s', H', C, cl, fp, rfl⟩ pins s2 I⟩) (fun s' H' C cl fp => ⟨fun pins s2 σ2 H2 Q2 I h => h _ ⟨s', H', C, cl, fp, rfl⟩ pins s2 I⟩) hs)
    (lc_run (Sub.refl F) own pr f hi ht hl (Same.refl _) w fun F2 H2 l vs s2 w2 n1 n2 hh hA => k F2 H2 l vs s2 n2 (w2.keepM n1 n2 hh) hA))
theorem ets_nil : EvTs X [] σ F M true := fun F1 H1 s w Q q => wts_of pts_nil (q F1 H1 (Same.refl _) w)
theorem ets_one {k : Bool} (h : Bx X c σ F M k) : EvTs X [c] σ F M k := fun F1 H1 s w Q q => wts_of (pts_one (pt_w c)) (h.2 F1 H1 s w Q q)
/-- [elt for x in it if ..], x in slot i -/
theorem en_lc (i : Nat) {elt it : Expr} {ifs : List Expr} {scope : Scope} {xs : List α} [m : Mono s] (pr : α → Bool) (f : α → β)
    (hi : EvI X (.Name n p) it σ F M r xs)
    (ht : ∀ x v F1 M1, x ∈ xs → Sub F F1 → Same M M1 → r F1 v x → ∀ Y, Blk X scope Y → EvTs Y ifs (((wipe σ [i])).set i (some v)) F1 M1 (pr x) ∧ (pr x = true → EvF Y elt ((wipe σ [i]).set i (some v)) F1 M1 s (f x)))
    (hl : xs.length < 1000000) (hN : X.N.Nodup) (hb : blkC X.N X.env.scope scope [(n, i)] = true := by decide +kernel) (hc : X.calm = true := by rfl)
    (hg : ∀ (s : Shared) (H : Hp) (C : Addr) (cl : List (Str × Addr)) (fp : List Addr), PG (X.blk s H scope (compEnvC scope cl C X.env) fp) (.Name n p) (gName i) := by exact fun _ _ _ _ _ => pg_name (by assumption) rfl (Or.inl rfl))
    (hs : ∀ x, foldedSetIterable it X.env x = pure x := by intro _; rfl) :
    EvN X (.ListComp elt [⟨.Name n p, it, ifs, 0⟩] scope pos) σ F M s ((xs.filter pr).map f) :=
  en_lc_core [(n, i)] (g := gName i) pr f hi hg (fun x v F1 M1 H1 hx s1 s2 w hr R k => k _ (by
      show (List.set (List.set (List.set σ i none) i (some v)) i none) = List.set σ i none
      rw [List.set_set, List.set_set]) (fun Y hY => (ht x v F1 M1 hx s1 s2 hr Y hY).1) (fun hp Y hY => (ht x v F1 M1 hx s1 s2 hr Y hY).2 hp)) hl hN (blkOk_by hb) hc hs
/-- y = [elt for x in it if ..]: x in slot i, y in slot j -/
theorem ss_lc (j i : Nat) {y : Str} {py : Pos} {D : Ends} {rest : List Stmt} {spos : Pos} {H : Hp} {elt it : Expr} {ifs : List Expr} {scope : Scope} {xs : List α} [m : Mono s] (pr : α → Bool) (f : α → β)
    (hi : EvI X (.Name n p) it σ F M r xs)
    (ht : ∀ x v F1 M1, x ∈ xs → Sub F F1 → Same M M1 → r F1 v x → ∀ Y, Blk X scope Y → EvTs Y ifs (((wipe σ [i])).set i (some v)) F1 M1 (pr x) ∧ (pr x = true → EvF Y elt ((wipe σ [i]).set i (some v)) F1 M1 s (f x)))
    (hl : xs.length < 1000000) (hN : X.N.Nodup) (w : Own F M H)
    (k : ∀ F2 H2 l vs, Same F F2 → M l = none → Own F2 (upd M l (.lst vs)) H2 → A2 (s F2) vs ((xs.filter pr).map f) → WSs X rest D (σ.set j (some (.ref l))) H2)
    (hy : X.N[j]? = some y := by rfl) (hyl : X.env.scope.names.lookup y = some .local := by rfl) (hsw : swapsWith (.ListComp elt [⟨.Name n p, it, ifs, 0⟩] scope pos) (some (.Name y py)) spos.line X.env = pure true := by exact sw_true rfl rfl rfl (by decide +kernel))
    (hb : blkC X.N X.env.scope scope [(n, i)] = true := by decide +kernel) (hc : X.calm = true := by rfl)
    (hg : ∀ (s : Shared) (H : Hp) (C : Addr) (cl : List (Str × Addr)) (fp : List Addr), PG (X.blk s H scope (compEnvC scope cl C X.env) fp) (.Name n p) (gName i) := by exact fun _ _ _ _ _ => pg_name (by assumption) rfl (Or.inl rfl))
    (hs : ∀ x, foldedSetIterable it X.env x = pure x := by intro _; rfl) :
    WSs X (.Assign [.Name y py] (.ListComp elt [⟨.Name n p, it, ifs, 0⟩] scope pos) spos :: rest) D σ H :=
  ss_lc_core j [(n, i)] (g := gName i) pr f hi hg (fun x v F1 M1 H1 hx s1 s2 w hr R k => k _ (by
      show (List.set (List.set (List.set σ i none) i (some v)) i none) = List.set σ i none
      rw [List.set_set, List.set_set]) (fun Y hY => (ht x v F1 M1 hx s1 s2 hr Y hY).1) (fun hp Y hY => (ht x v F1 M1 hx s1 s2 hr Y hY).2 hp)) hl hN (blkOk_by hb) w k hy hyl hsw hc hs
end

/-! ### subscripts -/
section
variable [Lams] {X : Cx} {σ : L2.St} {F M : Hp} {a b c e : Expr} {pos p p2 : Pos} {α β γ δ : Type} {r : Rep α} {s : Rep β} {t : Rep γ} {n : Str}
/-- xs[i], from the end for i below 0 -/
def gI [Inhabited α] (xs : List α) (i : Int) : α := (atI xs i).getD default
omit [Lams] in
theorem ixN_some {n : Nat} {i : Int} (h : -(n : Int) ≤ i ∧ i < n) : ∃ j, ixN n i = some j ∧ j < n := by
  unfold ixN
  by_cases h0 : 0 ≤ i
  · rw [if_pos h0, if_pos h.2]
    exact ⟨_, rfl, by omega⟩
  · rw [if_neg h0, if_pos h.1]
    exact ⟨_, rfl, by omega⟩
omit [Lams] in
theorem A2.at [Inhabited α] {pp : V → α → Prop} {vs : List V} {xs : List α} {i : Int} (h : A2 pp vs xs) (hi : -(xs.length : Int) ≤ i ∧ i < xs.length) : ∃ v, atI vs i = some v ∧ pp v (gI xs i) := by
  obtain ⟨j, e, hj⟩ := ixN_some hi
  obtain ⟨v, hv, hp⟩ := h.get (i := j) (b := xs[j]) (by simp [hj])
  refine ⟨v, ?_, ?_⟩
  · unfold atI
    rw [h.len, e]
    exact hv
  · unfold gI atI
    rw [e]
    simpa [hj] using hp
omit [Lams] in
theorem gI_nat [Inhabited α] {xs : List α} {i : Int} (h0 : 0 ≤ i) (h : i < xs.length) : xs[i.toNat]? = some (gI xs i) := by
  unfold gI atI ixN
  rw [if_pos h0, if_pos h]
  have : i.toNat < xs.length := by omega
  simp [this]
omit [Lams] in
theorem gI_mem [Inhabited α] {xs : List α} {i : Int} (h : -(xs.length : Int) ≤ i ∧ i < xs.length) : gI xs i ∈ xs := by
  obtain ⟨j, e, hj⟩ := ixN_some h
  unfold gI atI
  rw [e]
  simp [hj]
omit [Lams] in
theorem gI_last [Inhabited α] {xs : List α} (h : xs ≠ []) : gI xs (-1) = xs.getLast h := by
  have hl : 0 < xs.length := List.length_pos_iff.mpr h
  unfold gI atI ixN
  rw [if_neg (by omega), if_pos (by omega)]
  have e : ((-1 : Int) + (xs.length : Int)).toNat = xs.length - 1 := by omega
  simp only [Option.bind_some, e]
  rw [List.getLast_eq_getElem]
  have : xs.length - 1 < xs.length := by omega
  simp [this]
theorem ev_ix [Inhabited α] {xs : List α} {i : Int} [m : Mono r] (ha : EvF X a σ F M (rdR X.K M r) xs) (hb : EvF X b σ F M iR i) (h : -(xs.length : Int) ≤ i ∧ i < xs.length) (hs : PlainIx b := by exact fun _ _ => rfl) :
    EvF X (.Subscript a b pos) σ F M r (gI xs i) :=
  fun F1 H1 s w Q q => we_of (pe_ix ix_list (pe_w a) (pe_w b) hs) (ha F1 H1 s w _ fun F2 H2 v s2 w2 ⟨l, vs, e, hl, h2⟩ => hb F2 H2 (s.trans s2) w2 _ fun F3 H3 u s3 w3 hu => by
    obtain ⟨z, hz, hr⟩ := h2.at h
    exact ⟨l, vs, i, z, e, hu, w3.sq (hl.imp (fun y => Same.sql s3 y) id), hz, q F3 H3 z (s2.trans s3) w3 (Mono.mono s3 hr)⟩)
theorem ev_t2_0 {x : α × β} {j} {q1} [m : Mono r] (ha : EvF X a σ F M (t2R r s) x) (hs : PlainIx (.Constant (.int 0) j q1) := by exact fun _ _ => rfl) : EvF X (.Subscript a (.Constant (.int 0) j q1) pos) σ F M r x.1 :=
  fun F1 H1 s w Q q => we_of (pe_ix ix_tup (pe_w a) pe_int hs) (ha F1 H1 s w _ fun F2 H2 v s2 w2 ⟨l, u, z, e, hl, h1, h2⟩ => ⟨l, _, 0, u, e, rfl, SqT.of (w2.f _ _ hl), rfl, q F2 H2 _ s2 w2 h1⟩)
theorem ev_t2_1 {x : α × β} {j} {q1} [m : Mono s] (ha : EvF X a σ F M (t2R r s) x) (hs : PlainIx (.Constant (.int 1) j q1) := by exact fun _ _ => rfl) : EvF X (.Subscript a (.Constant (.int 1) j q1) pos) σ F M s x.2 :=
  fun F1 H1 s w Q q => we_of (pe_ix ix_tup (pe_w a) pe_int hs) (ha F1 H1 s w _ fun F2 H2 v s2 w2 ⟨l, u, z, e, hl, h1, h2⟩ => ⟨l, _, 1, z, e, rfl, SqT.of (w2.f _ _ hl), rfl, q F2 H2 _ s2 w2 h2⟩)
theorem ev_t3_0 {x : α × β × γ} {j} {q1} (ha : EvF X a σ F M (t3R r s t) x) (hs : PlainIx (.Constant (.int 0) j q1) := by exact fun _ _ => rfl) : EvF X (.Subscript a (.Constant (.int 0) j q1) pos) σ F M r x.1 :=
  fun F1 H1 s w Q q => we_of (pe_ix ix_tup (pe_w a) pe_int hs) (ha F1 H1 s w _ fun F2 H2 v s2 w2 ⟨l, u, z, y, e, hl, h1, h2, h3⟩ => ⟨l, _, 0, u, e, rfl, SqT.of (w2.f _ _ hl), rfl, q F2 H2 _ s2 w2 h1⟩)
theorem ev_t3_1 {x : α × β × γ} {j} {q1} (ha : EvF X a σ F M (t3R r s t) x) (hs : PlainIx (.Constant (.int 1) j q1) := by exact fun _ _ => rfl) : EvF X (.Subscript a (.Constant (.int 1) j q1) pos) σ F M s x.2.1 :=
  fun F1 H1 s w Q q => we_of (pe_ix ix_tup (pe_w a) pe_int hs) (ha F1 H1 s w _ fun F2 H2 v s2 w2 ⟨l, u, z, y, e, hl, h1, h2, h3⟩ => ⟨l, _, 1, z, e, rfl, SqT.of (w2.f _ _ hl), rfl, q F2 H2 _ s2 w2 h2⟩)
theorem ev_t3_2 {x : α × β × γ} {j} {q1} (ha : EvF X a σ F M (t3R r s t) x) (hs : PlainIx (.Constant (.int 2) j q1) := by exact fun _ _ => rfl) : EvF X (.Subscript a (.Constant (.int 2) j q1) pos) σ F M t x.2.2 :=
  fun F1 H1 s w Q q => we_of (pe_ix ix_tup (pe_w a) pe_int hs) (ha F1 H1 s w _ fun F2 H2 v s2 w2 ⟨l, u, z, y, e, hl, h1, h2, h3⟩ => ⟨l, _, 2, y, e, rfl, SqT.of (w2.f _ _ hl), rfl, q F2 H2 _ s2 w2 h3⟩)
/-! slices: xs[lo:hi] -/
def cutL (xs : List α) (lo hi : Option Int) : List α := (xs.drop (HT.sIx xs.length 0 lo)).take (HT.sIx xs.length xs.length hi - HT.sIx xs.length 0 lo)
omit [Lams] in
theorem cutL_le (xs : List α) (lo hi : Option Int) : (cutL xs lo hi).length ≤ xs.length := by
  unfold cutL
  rw [List.length_take, List.length_drop]
  omega
omit [Lams] in
theorem cutL_mem {xs : List α} {lo hi : Option Int} {x : α} (h : x ∈ cutL xs lo hi) : x ∈ xs := List.mem_of_mem_drop (List.mem_of_mem_take h)
omit [Lams] in
theorem lc_len {xs : List α} {q : α → Bool} {f : α → β} : ((xs.filter q).map f).length ≤ xs.length := by
  rw [List.length_map]
  exact List.length_filter_le _ _
def EvO (X : Cx) (e : Option Expr) (σ : L2.St) (F M : Hp) (o : Option Int) : Prop := match e, o with
  | none, none => True
  | some e, some i => EvF X e σ F M iR i
  | _, _ => False
def WO (X : Cx) (e : Option Expr) : TO := match e with
  | none => tNoPart
  | some e => tPart (WE X e)
omit [Lams] in
theorem po_w (e : Option Expr) : PO X e (WO X e) := by
  cases e with
  | none => exact po_none
  | some e => exact po_some (pe_w e)
theorem EvO.run {e : Option Expr} {o : Option Int} (h : EvO X e σ F M o) {F1 H1 : Hp} (s : Same F F1) (w : Own F1 M H1) (Q : Option Int → Hp → Prop) (q : ∀ F2 H2, Same F1 F2 → Own F2 M H2 → Q o H2) : WO X e σ H1 Q := by
  cases e with
  | none => cases o with
    | none => exact q F1 H1 (Same.refl _) w
    | some i => exact h.elim
  | some e => cases o with
    | none => exact h.elim
    | some i => exact h F1 H1 s w _ fun F2 H2 v s2 w2 hv => ⟨i, hv, q F2 H2 s2 w2⟩
theorem en_slice {xs : List α} {lo hi : Option Expr} {l u : Option Int} [m : Mono r] (ha : EvF X a σ F M (rdR X.K M r) xs) (hl : EvO X lo σ F M l) (hu : EvO X hi σ F M u) : EvN X (.Subscript a (.Slice lo hi none p2) pos) σ F M r (cutL xs l u) :=
  fun F1 H1 s w Q q => we_of (pe_slice sl_list (pe_w a) (po_w lo) (po_w hi)) (ha F1 H1 s w _ fun F2 H2 v s2 w2 ⟨k, vs, e, hk, h2⟩ => hl.run (s.trans s2) w2 _ fun F3 H3 s3 w3 => hu.run ((s.trans s2).trans s3) w3 _ fun F4 H4 s4 w4 =>
    ⟨k, vs, e, w4.sq (hk.imp (fun y => Same.sql (s3.trans s4) y) id), fun p hp => by
      refine q F4 _ p _ ((s2.trans s3).trans s4) (w4.more hp) (w4.noF hp) (w4.noM hp) upd_same ?_
      unfold cutV cutL
      rw [h2.len]
      exact ((h2.up (s3.trans s4)).drop _).take _⟩)
end

/-! ### calls of one's own defs -/
/-- the arguments of a call, one after the other -/
abbrev AR (α : Type) := Hp → List V → α → Prop
def an : AR Unit := fun _ vs _ => vs = []
def ac {α β : Type} (r : Rep α) (A : AR β) : AR (α × β) := fun F vs x => ∃ v us, vs = v :: us ∧ r F v x.1 ∧ A F us x.2
/-- a def's promise: what it gives stands for good -/
def FSp [Lams] {α : Type} (A : AR α) (pre : α → Prop) (R : α → Hp → V → Prop) : Sp := fun vs H Q _ => ∃ F M x, A F vs x ∧ pre x ∧ Own F M H ∧ ∀ F2 H2 v, Same F F2 → Own F2 M H2 → R x F2 v → Q v H2
/-- .. it gives a new list -/
def FSpN [Lams] {α β : Type} (A : AR α) (pre : α → Prop) (r : Rep β) (R : α → List β → Prop) : Sp := fun vs H Q _ => ∃ F M x, A F vs x ∧ pre x ∧ Own F M H ∧
  ∀ F2 H2 l vs ys, Same F F2 → Own F2 M H2 → F2 l = none → M l = none → H2 l = some (.lst vs) → A2 (r F2) vs ys → R x ys → Q (.ref l) H2
section
variable [Lams] {X : Cx} {σ : L2.St} {F M : Hp} {a b c e : Expr} {es : List Expr} {pos p p2 : Pos} {α β γ δ : Type} {r : Rep α} {s : Rep β} {n : Str} {k : Nat} {f : Addr} {fd : FuncData} {ps : List Str}
theorem ev_call {A : AR α} {pre : α → Prop} {R : α → Hp → V → Prop} {x : α} (G : FnOk X.prog X.w X.K X.mg X.base CX0 k f fd ps (FSp A pre R)) (hr : Room k X.A) (hm : X.mg n = some (.ref f)) (hk : PySem.W.keepIn X.K (.ref f) = true) (hb : Binds X.K fd ps [])
    (ha : EvA X (e :: es) σ F M fun F vs => A F vs x) (hp : pre x) (hg : Gl X n := by rfl) (hdb : (n == ("__debug__" : Str)) = false := by decide) (he : starEach (e :: es) X.env = (false, eval e X.env) :: starEach es X.env := by rfl) (hpl : (backTo pos (starEach es X.env)).any (·.1) = false := by rfl) :
    Ev X (.Call (.Name n p) (e :: es) [] pos) σ F M (R x) :=
  fun F1 H1 s w Q q => we_of (pe_call G hr hg hm hk hb .nil pass0 (pa_w (e :: es)) hdb he hpl) (ha F1 H1 s w _ fun F2 H2 vs s2 w2 hv => by
    show FSp A pre R (vs ++ []) H2 Q E0
    rw [List.append_nil]
    exact ⟨F2, M, x, hv, hp, w2, fun F3 H3 v s3 w3 h => q F3 H3 v (s2.trans s3) w3 h⟩)
/-- what is known of the new list a call gives -/
def EvNP (X : Cx) (e : Expr) (σ : L2.St) (F M : Hp) {β : Type} (r : Rep β) (P : List β → Prop) : Prop :=
  ∀ F1 H1, Same F F1 → Own F1 M H1 → ∀ Q : VK, (∀ F2 H2 l vs ys, Same F1 F2 → Own F2 M H2 → F2 l = none → M l = none → H2 l = some (.lst vs) → A2 (r F2) vs ys → P ys → Q (.ref l) H2) → WE X e σ H1 Q
theorem ev_callN {A : AR α} {pre : α → Prop} {R : α → List β → Prop} {x : α} (G : FnOk X.prog X.w X.K X.mg X.base CX0 k f fd ps (FSpN A pre s R)) (hr : Room k X.A) (hm : X.mg n = some (.ref f)) (hk : PySem.W.keepIn X.K (.ref f) = true) (hb : Binds X.K fd ps [])
    (ha : EvA X (e :: es) σ F M fun F vs => A F vs x) (hp : pre x) (hg : Gl X n := by rfl) (hdb : (n == ("__debug__" : Str)) = false := by decide) (he : starEach (e :: es) X.env = (false, eval e X.env) :: starEach es X.env := by rfl) (hpl : (backTo pos (starEach es X.env)).any (·.1) = false := by rfl) :
    EvNP X (.Call (.Name n p) (e :: es) [] pos) σ F M s (R x) :=
  fun F1 H1 s1 w Q q => we_of (pe_call G hr hg hm hk hb .nil pass0 (pa_w (e :: es)) hdb he hpl) (ha F1 H1 s1 w _ fun F2 H2 vs s2 w2 hv => by
    show FSpN A pre s R (vs ++ []) H2 Q E0
    rw [List.append_nil]
    exact ⟨F2, M, x, hv, hp, w2, fun F3 H3 l vs ys s3 w3 h1 h2 h3 h4 h5 => q F3 H3 l vs ys (s2.trans s3) w3 h1 h2 h3 h4 h5⟩)
theorem EvNP.fz {P : List α → Prop} [m : Mono r] (h : EvNP X e σ F M r P) : Ev X e σ F M fun F v => ∃ xs, lR r F v xs ∧ P xs := fun F1 H1 s w Q q => h F1 H1 s w Q fun F2 H2 a vs ys s2 w2 n1 n2 hh h2 hP =>
  q _ H2 _ (s2.trans (same_new n1)) (w2.keepF n1 n2 hh) ⟨ys, ⟨a, vs, rfl, upd_same, h2.up (same_new n1)⟩, hP⟩
theorem EvNP.eq {P : List α → Prop} {xs : List α} (h : EvNP X e σ F M r P) (q : ∀ ys, P ys → ys = xs) : EvN X e σ F M r xs := fun F1 H1 s w Q k => h F1 H1 s w Q fun F2 H2 a vs ys s2 w2 n1 n2 hh h2 hP => by
  cases q ys hP
  exact k F2 H2 a vs s2 w2 n1 n2 hh h2
end
section
variable {P : Program} {w : World} {K : PySem.W.Frag} {mg : Str → Option Value} {base : Heap}
/-- a def holds its promise: its body from its arguments on -/
theorem ok_def {x qual : Str} {st : Stmt} {f : Addr} {fd : FuncData} {N ps : List Str} {k : Nat} {sp : Sp} (F : Fun K x qual st f fd) (S : FnScope N ps (defScope st)) (len : ∀ vs H Q E, sp vs H Q E → vs.length = ps.length)
    (hbody : ∀ (cdv : Value) (A : Around) (outer : List Env) (s : Shared) (H : Hp) (vs : List V) (Q : VK) (E : XK), Room k (A.deeper (envOfC qual (defScope st) s.heap.objs.size f cdv)) → sp vs H Q E →
      WSs (cxOf CX0 P w K mg base N qual (defScope st) f cdv A outer s H E).nox (defBody st) { nx := fun _ H' => Q .non H', rt := Q } (start N vs) H) : FnOk P w K mg base CX0 (k + 1) f fd ps sp :=
  F.ok S len fun cdv A outer s H vs Q E hr h => ⟨_, pss_w _, hbody cdv A outer s H vs Q E hr h⟩
end
end Y

namespace Y
open PySem PySem.Spec PyProof.Rows L2
/-! ### == at any depth -/
/-- what is compared item by item -/
class DEq {α : Type} (r : Rep α) where
  toD : α → PyData
  dep : Nat
  dp : ∀ {K : PySem.W.Frag} {F : Hp} {v : V} {x : α}, r F v x → Dp K F v (toD x)
  lay : ∀ {F : Hp} {v : V} {x : α}, r F v x → (toD x).canLay0 = true
  dpt : ∀ x : α, (toD x).depth ≤ dep
  eqv : ∀ x y : α, PyData.eqv (toD x) (toD y) = true ↔ x = y
theorem b_iff {b : Bool} {p : Prop} [Decidable p] (h : b = true ↔ p) : b = decide p := by
  cases b with
  | true => exact (decide_eq_true (h.mp rfl)).symm
  | false => exact (decide_eq_false fun q => Bool.false_ne_true (h.mpr q)).symm
mutual
theorem Dp.up {K : PySem.W.Frag} {F F' : Hp} (e : Same F F') : ∀ {v : V} {d : PyData}, Dp K F v d → Dp K F' v d
  | _, _, .non => .non
  | _, _, .bl b => .bl b
  | _, _, .int i => .int i
  | _, _, .str x => .str x
  | _, _, .lst h t => .lst (Same.sql e h) (DpAll.up e t)
  | _, _, .tup h t => .tup (Same.sqt e h) (DpAll.up e t)
theorem DpAll.up {K : PySem.W.Frag} {F F' : Hp} (e : Same F F') : ∀ {vs : List V} {ds : List PyData}, DpAll K F vs ds → DpAll K F' vs ds
  | _, _, .nil => .nil
  | _, _, .cons h t => .cons (Dp.up e h) (DpAll.up e t)
end
instance : DEq iR where
  toD := .int
  dep := 0
  dp := fun h => by cases h; exact .int _
  lay := fun _ => rfl
  dpt := fun _ => Nat.le_refl _
  eqv := fun x y => by simp [PyData.eqv]
instance : DEq bR where
  toD := .bool
  dep := 0
  dp := fun h => by cases h; exact .bl _
  lay := fun _ => rfl
  dpt := fun _ => Nat.le_refl _
  eqv := fun x y => by simp [PyData.eqv]
instance : DEq sR where
  toD := .str
  dep := 0
  dp := fun h => by cases h.1; exact .str _
  lay := fun h => h.2
  dpt := fun _ => Nat.le_refl _
  eqv := fun x y => by simp [PyData.eqv]
instance : DEq nR where
  toD := fun _ => .none
  dep := 0
  dp := fun h => by cases h; exact .non
  lay := fun _ => rfl
  dpt := fun _ => Nat.le_refl _
  eqv := fun x y => by simp [PyData.eqv]
theorem dpAll_of {α : Type} {r : Rep α} [d : DEq r] {K : PySem.W.Frag} {F : Hp} : ∀ {vs : List V} {xs : List α}, A2 (r F) vs xs → DpAll K F vs (xs.map d.toD)
  | _, _, .nil => .nil
  | _, _, .cons h t => .cons (d.dp h) (dpAll_of t)
theorem layAll_of {α : Type} {r : Rep α} [d : DEq r] {F : Hp} : ∀ {vs : List V} {xs : List α}, A2 (r F) vs xs → PyData.canLayAll0 (xs.map d.toD) = true
  | _, _, .nil => rfl
  | _, _, .cons h t => by
    show (PyData.canLay0 _ && PyData.canLayAll0 _) = true
    rw [d.lay h, layAll_of t]; rfl
theorem dptAll_of {α : Type} {r : Rep α} [d : DEq r] : ∀ xs : List α, PyData.depthAll (xs.map d.toD) ≤ d.dep
  | [] => Nat.zero_le _
  | x :: xs => by
    show max (PyData.depth _) (PyData.depthAll _) ≤ _
    exact Nat.max_le.mpr ⟨d.dpt x, dptAll_of xs⟩
theorem eqvAll_of {α : Type} {r : Rep α} [d : DEq r] : ∀ xs ys : List α, PyData.eqvAll (xs.map d.toD) (ys.map d.toD) = true ↔ xs = ys
  | [], [] => by simp [PyData.eqvAll]
  | [], _ :: _ => by simp [PyData.eqvAll]
  | _ :: _, [] => by simp [PyData.eqvAll]
  | x :: xs, y :: ys => by
    show ((PyData.eqv _ _ && PyData.eqvAll _ _) = true) ↔ _
    rw [Bool.and_eq_true, d.eqv, eqvAll_of xs ys, List.cons.injEq]
instance {α : Type} {r : Rep α} [d : DEq r] : DEq (lR r) where
  toD := fun xs => .list (xs.map d.toD)
  dep := d.dep + 1
  dp := fun ⟨a, vs, e, h1, h2⟩ => by subst e; exact .lst (SqL.of h1) (dpAll_of h2)
  lay := fun ⟨a, vs, e, h1, h2⟩ => layAll_of h2
  dpt := fun xs => Nat.add_le_add_right (dptAll_of xs) 1
  eqv := fun xs ys => eqvAll_of xs ys
instance {α β : Type} {r : Rep α} {s : Rep β} [d : DEq r] [e : DEq s] : DEq (t2R r s) where
  toD := fun x => .tuple [d.toD x.1, e.toD x.2]
  dep := max d.dep e.dep + 1
  dp := fun ⟨a, u, w, q, h1, h2, h3⟩ => by subst q; exact .tup (SqT.of h1) (.cons (d.dp h2) (.cons (e.dp h3) .nil))
  lay := fun ⟨a, u, w, q, h1, h2, h3⟩ => by
    show (PyData.canLay0 _ && (PyData.canLay0 _ && true)) = true
    rw [d.lay h2, e.lay h3]; rfl
  dpt := fun x => by
    show max (PyData.depth _) (max (PyData.depth _) 0) + 1 ≤ _
    have h1 := d.dpt x.1
    have h2 := e.dpt x.2
    omega
  eqv := fun x y => by
    show ((PyData.eqv _ _ && (PyData.eqv _ _ && true)) = true) ↔ _
    rw [Bool.and_eq_true, Bool.and_eq_true, d.eqv, e.eqv]
    cases x; cases y; simp
instance {α β γ : Type} {r : Rep α} {s : Rep β} {t : Rep γ} [d : DEq r] [e : DEq s] [f : DEq t] : DEq (t3R r s t) where
  toD := fun x => .tuple [d.toD x.1, e.toD x.2.1, f.toD x.2.2]
  dep := max d.dep (max e.dep f.dep) + 1
  dp := fun ⟨a, u, w, z, q, h1, h2, h3, h4⟩ => by subst q; exact .tup (SqT.of h1) (.cons (d.dp h2) (.cons (e.dp h3) (.cons (f.dp h4) .nil)))
  lay := fun ⟨a, u, w, z, q, h1, h2, h3, h4⟩ => by
    show (PyData.canLay0 _ && (PyData.canLay0 _ && (PyData.canLay0 _ && true))) = true
    rw [d.lay h2, e.lay h3, f.lay h4]; rfl
  dpt := fun x => by
    show max (PyData.depth _) (max (PyData.depth _) (max (PyData.depth _) 0)) + 1 ≤ _
    have h1 := d.dpt x.1
    have h2 := e.dpt x.2.1
    have h3 := f.dpt x.2.2
    omega
  eqv := fun x y => by
    show ((PyData.eqv _ _ && (PyData.eqv _ _ && (PyData.eqv _ _ && true))) = true) ↔ _
    rw [Bool.and_eq_true, Bool.and_eq_true, Bool.and_eq_true, d.eqv, e.eqv, f.eqv]
    obtain ⟨x1, x2, x3⟩ := x
    obtain ⟨y1, y2, y3⟩ := y
    simp
section
variable [Lams] {X : Cx} {σ : L2.St} {F M : Hp} {a b c e : Expr} {pos p p2 : Pos} {α β γ δ : Type} {r : Rep α} {s : Rep β} {t : Rep γ} {n : Str}
/-- a list to be read, one that is no written one of the module -/
def rtR (M : Hp) {α : Type} (r : Rep α) : Rep (List α) := fun F v xs => ∃ a vs, v = .ref a ∧ (F a = some (.lst vs) ∨ M a = some (.lst vs)) ∧ A2 (r F) vs xs
instance {M : Hp} {α : Type} {r : Rep α} [m : Mono r] : Mono (rtR M r) := ⟨fun e ⟨a, vs, h1, h2, h3⟩ => ⟨a, vs, h1, h2.imp (fun q => e.lst q) id, h3.sub e⟩⟩
theorem Ev.rt {xs : List α} (h : EvF X e σ F M (lR r) xs) : EvF X e σ F M (rtR M r) xs := h.imp fun _ _ ⟨a, vs, h1, h2, h3⟩ => ⟨a, vs, h1, .inl h2, h3⟩
theorem Ev.td {xs : List α} (h : EvF X e σ F M (rtR M r) xs) : EvF X e σ F M (rdR X.K M r) xs := h.imp fun _ _ ⟨a, vs, h1, h2, h3⟩ => ⟨a, vs, h1, h2.imp SqL.of id, h3⟩
theorem ev_varT (i : Nat) {xs : List α} {l : Addr} {vs : List V} {n : Str} [m : Mono r] (hs : σ[i]? = some (some (.ref l))) (hM : M l = some (.lst vs)) (hr : A2 (r F) vs xs) (hN : X.N[i]? = some n := by rfl)
    (hv : Vis X.env.scope n := by first | exact Or.inl rfl | exact Or.inr (Or.inl rfl) | exact Or.inr (Or.inr rfl)) (hd : (n == ("__debug__" : Str)) = false := by decide) (hcd : (n == ("__classdict__" : Str)) = false := by decide) :
    EvF X (.Name n pos) σ F M (rtR M r) xs := fun F1 H1 s w Q q => we_of (pe_var hN hv hd hcd) ⟨_, hs, q F1 H1 _ (Same.refl _) w ⟨l, vs, rfl, .inr hM, hr.up s⟩⟩
omit [Lams] in
theorem shaped_of {d : PyData} (h1 : d.canLay0 = true) (h2 : d.depth ≤ 64) : SeqAt.shaped d = true := by
  show (d.canLay0 && decide (d.depth ≤ 64)) = true
  rw [h1, decide_eq_true h2]; rfl
theorem bx_eqD [d : DEq r] [m : Mono r] [DecidableEq α] {x y : α} (hu : X.A.units + 64 < cLine) (ha : EvF X a σ F M r x) (hb : EvF X b σ F M r y) (hdep : d.dep ≤ 64 := by decide) : Bx X (.Compare a [.Eq] [b] pos) σ F M (decide (x = y)) :=
  bx_c (ec_R (op_eqD hu) ha hb (fun _ _ _ e h => Mono.mono e h) fun F1 H1 v u _ w hv hu Q q =>
    ⟨d.toD x, d.toD y, Dp.up w.f (d.dp hv), Dp.up w.f (d.dp hu), shaped_of (d.lay hv) (Nat.le_trans (d.dpt x) hdep), shaped_of (d.lay hu) (Nat.le_trans (d.dpt y) hdep), by rw [b_iff (d.eqv x y)]; exact q⟩)
theorem bx_neD [d : DEq r] [m : Mono r] [DecidableEq α] {x y : α} (hu : X.A.units + 64 < cLine) (ha : EvF X a σ F M r x) (hb : EvF X b σ F M r y) (hdep : d.dep ≤ 64 := by decide) : Bx X (.Compare a [.NotEq] [b] pos) σ F M (!decide (x = y)) :=
  bx_c (ec_R (op_neD hu) ha hb (fun _ _ _ e h => Mono.mono e h) fun F1 H1 v u _ w hv hu Q q =>
    ⟨d.toD x, d.toD y, Dp.up w.f (d.dp hv), Dp.up w.f (d.dp hu), shaped_of (d.lay hv) (Nat.le_trans (d.dpt x) hdep), shaped_of (d.lay hu) (Nat.le_trans (d.dpt y) hdep), by rw [b_iff (d.eqv x y)]; exact q⟩)
/-- lists, one's own among them -/
theorem rt_dp [d : DEq r] {K : PySem.W.Frag} {H : Hp} {v : V} {xs : List α} (w : Own F M H) (h : rtR M r F v xs) : Dp K H v (.list (xs.map d.toD)) ∧ PyData.canLay0 (.list (xs.map d.toD)) = true := by
  obtain ⟨a, vs, rfl, h1, h2⟩ := h
  refine ⟨.lst (h1.elim (fun q => SqL.of (w.f _ _ q)) fun q => SqL.of (w.m _ _ q)) (DpAll.up w.f (dpAll_of h2)), layAll_of h2⟩
theorem bx_eqT [d : DEq r] [m : Mono r] [DecidableEq α] {x y : List α} (hu : X.A.units + 64 < cLine) (ha : EvF X a σ F M (rtR M r) x) (hb : EvF X b σ F M (rtR M r) y) (hdep : d.dep ≤ 63 := by decide) : Bx X (.Compare a [.Eq] [b] pos) σ F M (decide (x = y)) :=
  bx_c (ec_R (op_eqD hu) ha hb (fun _ _ _ e h => Mono.mono e h) fun F1 H1 v u _ w hv hu Q q => by
    obtain ⟨p1, l1⟩ := rt_dp (K := X.K) w hv
    obtain ⟨p2, l2⟩ := rt_dp (K := X.K) w hu
    refine ⟨_, _, p1, p2, shaped_of l1 (Nat.le_trans (Nat.add_le_add_right (dptAll_of x) 1) (Nat.add_le_add_right hdep 1)), shaped_of l2 (Nat.le_trans (Nat.add_le_add_right (dptAll_of y) 1) (Nat.add_le_add_right hdep 1)), ?_⟩
    rw [show PyData.eqv (.list (x.map d.toD)) (.list (y.map d.toD)) = decide (x = y) from b_iff (eqvAll_of x y)]
    exact q)
theorem bx_neT [d : DEq r] [m : Mono r] [DecidableEq α] {x y : List α} (hu : X.A.units + 64 < cLine) (ha : EvF X a σ F M (rtR M r) x) (hb : EvF X b σ F M (rtR M r) y) (hdep : d.dep ≤ 63 := by decide) : Bx X (.Compare a [.NotEq] [b] pos) σ F M (!decide (x = y)) :=
  bx_c (ec_R (op_neD hu) ha hb (fun _ _ _ e h => Mono.mono e h) fun F1 H1 v u _ w hv hu Q q => by
    obtain ⟨p1, l1⟩ := rt_dp (K := X.K) w hv
    obtain ⟨p2, l2⟩ := rt_dp (K := X.K) w hu
    refine ⟨_, _, p1, p2, shaped_of l1 (Nat.le_trans (Nat.add_le_add_right (dptAll_of x) 1) (Nat.add_le_add_right hdep 1)), shaped_of l2 (Nat.le_trans (Nat.add_le_add_right (dptAll_of y) 1) (Nat.add_le_add_right hdep 1)), ?_⟩
    rw [show PyData.eqv (.list (x.map d.toD)) (.list (y.map d.toD)) = decide (x = y) from b_iff (eqvAll_of x y)]
    exact q)

/-! ### in, not in: a list of ints -/
omit [Lams] in
theorem flat_ints : ∀ xs : List Int, (xs.map V.int).all flatV = true
  | [] => rfl
  | x :: xs => by rw [List.map_cons, List.all_cons, flat_ints xs]; rfl
omit [Lams] in
theorem inV_ints (i : Int) : ∀ xs : List Int, inV (.int i) (xs.map V.int) = decide (i ∈ xs)
  | [] => by simp [inV]
  | x :: xs => by
    have ih := inV_ints i xs
    unfold inV at ih ⊢
    rw [List.map_cons, List.any_cons, ih]
    show ((x == i) || decide (i ∈ xs)) = _
    by_cases h : x = i
    · subst h; simp
    · have : ¬ i = x := fun q => h q.symm
      simp [h, this]
theorem bx_inL {i : Int} {xs : List Int} (ha : EvF X a σ F M iR i) (hb : EvF X b σ F M (rdR X.K M iR) xs) (hm : behindInMarks .In b = false := by rfl) : Bx X (.Compare a [.In] [b] pos) σ F M (decide (i ∈ xs)) :=
  bx_c (ec_R op_in_seq ha hb (fun _ _ _ _ h => h) fun F1 H1 v u _ w hv ⟨l, vs, e, hl, h2⟩ Q q => by
    cases (show v = V.int i from hv)
    refine ⟨l, vs, e, .inl (w.sq hl), rfl, ?_, ?_⟩
    · rw [iR_map h2]; exact flat_ints xs
    · rw [iR_map h2, inV_ints]; exact q) hm
theorem bx_niL {i : Int} {xs : List Int} (ha : EvF X a σ F M iR i) (hb : EvF X b σ F M (rdR X.K M iR) xs) (hm : behindInMarks .NotIn b = false := by rfl) : Bx X (.Compare a [.NotIn] [b] pos) σ F M (!decide (i ∈ xs)) :=
  bx_c (ec_R op_notIn_seq ha hb (fun _ _ _ _ h => h) fun F1 H1 v u _ w hv ⟨l, vs, e, hl, h2⟩ Q q => by
    cases (show v = V.int i from hv)
    refine ⟨l, vs, e, .inl (w.sq hl), rfl, ?_, ?_⟩
    · rw [iR_map h2]; exact flat_ints xs
    · rw [iR_map h2, inV_ints]; exact q) hm

/-! ### isinstance -/
class TyIs {α : Type} (r : Rep α) (T : outParam String) : Prop where
  ty : ∀ {K : PySem.W.Frag} {F : Hp} {v : V} {x : α}, r F v x → TyX K F v (.type T)
instance : TyIs iR "int" := ⟨fun h => by cases h; exact .base (.int _)⟩
instance : TyIs bR "bool" := ⟨fun h => by cases h; exact .base (.bl _)⟩
instance : TyIs sR "str" := ⟨fun h => by cases h.1; exact .base (.str _)⟩
instance : TyIs nR "NoneType" := ⟨fun h => by cases h; exact .base .non⟩
instance {α : Type} {r : Rep α} : TyIs (lR r) "list" := ⟨fun ⟨a, vs, e, h, _⟩ => by subst e; exact .base (.lst h)⟩
instance {α β : Type} {r : Rep α} {s : Rep β} : TyIs (t2R r s) "tuple" := ⟨fun ⟨a, u, w, e, h, _⟩ => by subst e; exact .base (.tup h)⟩
instance {α β γ : Type} {r : Rep α} {s : Rep β} {t : Rep γ} : TyIs (t3R r s t) "tuple" := ⟨fun ⟨a, u, w, z, e, h, _⟩ => by subst e; exact .base (.tup h)⟩
theorem bx_isi {T' : Str} {S S' : String} {x : α} {k : Bool} [t : TyIs r S] [m : Mono r] {q2 : Pos} (hm : X.mg "isinstance" = none) (hT : X.mg T' = none) (hb : bootBuiltins T' = some (.type S')) (ha : EvF X a σ F M r x) (hk : kitB S S' = some k) (hg : Gl X "isinstance" := by rfl) (hgT : Gl X T' := by rfl)
    (hn : T' ≠ "__name__" := by decide) (hd : (T' == ("__debug__" : Str)) = false := by decide)
    (he : starEach [a, .Name T' q2] X.env = (false, eval a X.env) :: starEach [.Name T' q2] X.env := by rfl) (he2 : starEach [.Name T' q2] X.env = (false, eval (.Name T' q2) X.env) :: starEach [] X.env := by rfl) (hpl : (backTo pos (starEach [.Name T' q2] X.env)).any (·.1) = false := by rfl)
    (ht : ∀ whole, isTrue (.Call (.Name "isinstance" p) [a, .Name T' q2] [] pos) X.env whole = (do let v ← whole; standAt (Expr.Call (.Name "isinstance" p) [a, .Name T' q2] [] pos).pos; holding [v] (truthy v)) := by intro _; rfl) :
    Bx X (.Call (.Name "isinstance" p) [a, .Name T' q2] [] pos) σ F M k :=
  bx_val (fun F1 H1 s w Q q => we_of (pe_callB call_isi hg hm (by decide +kernel) (pa_cons (pe_w a) (pa_cons (pe_bltn (v := .ty S') hgT hT hb rfl hn hd) pa_nil he2) he) (he := he) (hpl := hpl)) (ha F1 H1 s w _ fun F2 H2 v s2 w2 hv =>
    ⟨v, .ty S', .type S, .type S', k, rfl, .ty S', t.ty (F := H2) (x := x) (Mono.mono w2.f hv), kit_ty hk, q F2 H2 _ s2 w2 rfl⟩)) ht
end
end Y

namespace Y
open PySem PySem.Spec PyProof.Rows L2
section
variable [Lams] {F M H : Hp} {a b c p q l : Addr} {o o1 o2 o3 u : HO}
omit [Lams] in
theorem upd_comm (h : p ≠ q) : upd (upd M p o) q u = upd (upd M q u) p o := by
  funext x
  by_cases h1 : x = p
  · subst h1; rw [upd_ne h, upd_same, upd_same]
  · by_cases h2 : x = q
    · subst h2; rw [upd_same, upd_ne h1, upd_same]
    · rw [upd_ne h2, upd_ne h1, upd_ne h1, upd_ne h2]
omit [Lams] in
theorem upd_c2 (h : p ≠ q) : upd (upd (upd M p o) q u) p o1 = upd (upd M p o1) q u := by rw [upd_comm h, upd_upd, upd_comm h.symm]
omit [Lams] in
theorem upd_c3 (h : p ≠ q) (h2 : p ≠ l) (h3 : q ≠ l) : upd (upd (upd (upd M p o) q u) l o2) p o1 = upd (upd (upd M p o1) q u) l o2 := by
  rw [← upd_comm h2, upd_c2 h]
omit [Lams] in
theorem upd_comm3 (h : p ≠ q) (h2 : p ≠ l) : upd (upd (upd M p o) q u) l o2 = upd (upd (upd M q u) l o2) p o := by
  rw [upd_comm h, upd_comm h2]
theorem Own.cast {M' : Hp} (w : Own F M H) (e : M = M') : Own F M' H := e ▸ w
theorem Own.fz1 (w : Own F (upd M l o) H) (h : M l = none) : Own (upd F l o) M H := by
  have e := w.freeze (p := l) upd_same
  have d : del (upd M l o) l = M := by
    funext x
    by_cases h1 : x = l
    · subst h1; rw [del_same, h]
    · rw [del_ne h1, upd_ne h1]
  rw [d] at e; exact e
end
section
variable [Lams] {X : Cx} {σ : L2.St} {F M H : Hp} {a b c e : Expr} {pos p p2 : Pos} {α β γ δ : Type} {r : Rep α} {s : Rep β} {t : Rep γ} {n : Str} {rest : List Stmt} {D : Ends}
theorem ev_ifF {x y : α} {k : Bool} (hc : Bx X c σ F M k) (h1 : k = true → EvF X a σ F M r x) (h2 : k = false → EvF X b σ F M r y) : EvF X (.IfExp c a b pos) σ F M r (if k = true then x else y) :=
  ev_if hc (fun h => by subst h; simpa using h1 rfl) (fun h => by subst h; simpa using h2 rfl)
theorem EvI.eq {tg it : Expr} {xs ys : List α} (h : EvI X tg it σ F M r xs) (q : xs = ys) : EvI X tg it σ F M r ys := q ▸ h
theorem en_cat {xs ys : List α} [m : Mono r] (ha : EvF X a σ F M (rtR M r) xs) (hb : EvF X b σ F M (rtR M r) ys) (hl : xs.length + ys.length ≤ 1000000) : EvN X (.BinOp a .Add b pos) σ F M r (xs ++ ys) :=
  fun F1 H1 s w Q q => we_of (pe_op op_cat (pe_w a) (pe_w b)) (ha F1 H1 s w _ fun F2 H2 v s2 w2 ⟨l, vs, e, hl1, h2⟩ => hb F2 H2 (s.trans s2) w2 _ fun F3 H3 u s3 w3 ⟨l', vs', e', hl', h2'⟩ =>
    ⟨l, l', vs, vs', e, e', hl1.elim (fun z => w3.f _ _ (s3 _ _ z)) (w3.m _ _), hl'.elim (w3.f _ _) (w3.m _ _), small_of (by rw [h2.len, h2'.len]; exact hl), fun p hp =>
      q F3 _ p _ (s2.trans s3) (w3.more hp) (w3.noF hp) (w3.noM hp) upd_same ((h2.up s3).app h2')⟩)
theorem bx_chain {op op' : CmpOp} {g1 g2 : Int → Int → Bool} {i j k : Int} (ho : OpR X (compareOp op) (rI0 fun i j => .bl (g1 i j))) (ho' : OpR X (compareOp op') (rI0 fun i j => .bl (g2 i j))) (ha : EvF X a σ F M iR i) (hb : EvF X b σ F M iR j) (hc : EvF X c σ F M iR k)
    (hm : lastMarks [op, op'] [b, c] = false := by with_unfolding_all rfl) : Bx X (.Compare a [op, op'] [b, c] pos) σ F M (g1 i j && g2 j k) := by
  refine ⟨fun F1 H1 s w Q q => we_of (pe_chain ho ho' (pe_w a) (pe_w b) (pe_w c) hm) (ha F1 H1 s w _ fun F2 H2 v s2 w2 hv => hb F2 H2 (s.trans s2) w2 _ fun F3 H3 u s3 w3 hu => ⟨i, j, hv, hu, g1 i j, rfl, ?_⟩), fun F1 H1 s w Q q => wt_of (pt_chain ho ho' (pe_w a) (pe_w b) (pe_w c) hm) (ha F1 H1 s w _ fun F2 H2 v s2 w2 hv => hb F2 H2 (s.trans s2) w2 _ fun F3 H3 u s3 w3 hu => ⟨i, j, hv, hu, g1 i j, rfl, ?_⟩)⟩
  · cases hk : g1 i j with
    | false =>
      rw [if_neg Bool.false_ne_true]
      exact q F3 H3 _ (s2.trans s3) w3 (by rw [hk]; rfl)
    | true =>
      rw [if_pos rfl]
      exact hc F3 H3 ((s.trans s2).trans s3) w3 _ fun F4 H4 z s4 w4 hz => ⟨j, k, hu, hz, q F4 H4 _ ((s2.trans s3).trans s4) w4 (by rw [hk]; rfl)⟩
  · cases hk : g1 i j with
    | false =>
      rw [if_neg Bool.false_ne_true]
      exact ⟨_, rfl, by have := q F3 H3 (s2.trans s3) w3; rw [hk] at this; exact this⟩
    | true =>
      rw [if_pos rfl]
      exact hc F3 H3 ((s.trans s2).trans s3) w3 _ fun F4 H4 z s4 w4 hz => ⟨j, k, hu, hz, _, rfl, by have := q F4 H4 ((s2.trans s3).trans s4) w4; rw [hk] at this; exact this⟩
omit [Lams] in
theorem ss_doc {x j} {q1 q2 : Pos} (k : WSs X rest D σ H) : WSs X (.Expr (.Constant (.str x) j q1) q2 :: rest) D σ H := wss_cons (ws_of ps_doc k)
omit [Lams] in
theorem ss_pass (k : WSs X rest D σ H) : WSs X (.Pass pos :: rest) D σ H := wss_cons (ws_of ps_pass k)
omit [Lams] in
theorem ss_continue (k : D.ct σ H) : WSs X (.Continue pos :: rest) D σ H := wss_cons (ws_of ps_continue k)
omit [Lams] in
theorem ss_break (k : D.bk σ H) : WSs X (.Break pos :: rest) D σ H := wss_cons (ws_of ps_break k)
theorem ss_setB (i : Nat) {x : Bool} (he : EvF X e σ F M bR x) (w : Own F M H) (k : ∀ H2, Own F M H2 → WSs X rest D (σ.set i (some (.bl x))) H2)
    (hN : X.N.Nodup) (hi : X.N[i]? = some n := by rfl) (hx : Loc X.env.scope n := by first | exact Or.inl rfl | exact Or.inr rfl) (hs : swapsWith e (some (.Name n p)) pos.line X.env = pure false := by rfl) (hf : X.fn n = true ∨ X.env.scope.names.lookup n = some .local := by first | exact .inl rfl | exact .inr rfl) :
    WSs X (.Assign [.Name n p] e pos :: rest) D σ H :=
  ss_set i he w (fun F2 H2 v s2 w2 hv => by cases (show v = V.bl x from hv); exact k H2 (w2.lessF s2)) hN hi hx hs hf
theorem ss_setNP (i : Nat) {P : List α → Prop} (he : EvNP X e σ F M r P) (w : Own F M H) (k : ∀ F2 H2 l vs xs, Same F F2 → M l = none → Own F2 (upd M l (.lst vs)) H2 → A2 (r F2) vs xs → P xs → WSs X rest D (σ.set i (some (.ref l))) H2)
    (hN : X.N.Nodup) (hi : X.N[i]? = some n := by rfl) (hx : Loc X.env.scope n := by first | exact Or.inl rfl | exact Or.inr rfl) (hs : swapsWith e (some (.Name n p)) pos.line X.env = pure false := by rfl) (hf : X.fn n = true ∨ X.env.scope.names.lookup n = some .local := by first | exact .inl rfl | exact .inr rfl) :
    WSs X (.Assign [.Name n p] e pos :: rest) D σ H :=
  wss_cons (ws_of (ps_set hN hi hx (pe_w e) hs hf) (he F H (Same.refl _) w _ fun F2 H2 l vs xs s2 w2 n1 n2 hh h2 hp => k F2 H2 l vs xs s2 n2 (w2.keepM n1 n2 hh) h2 hp))
theorem ss_retN {xs : List α} (he : EvN X e σ F M r xs) (w : Own F M H) (k : ∀ F2 H2 l vs, Same F F2 → Own F2 M H2 → F2 l = none → M l = none → H2 l = some (.lst vs) → A2 (r F2) vs xs → D.rt (.ref l) H2) : WSs X (.Return (some e) pos :: rest) D σ H :=
  wss_cons (ws_of (ps_ret (pe_w e)) (he F H (Same.refl _) w _ fun F2 H2 l vs s2 w2 n1 n2 hh h2 => k F2 H2 l vs s2 w2 n1 n2 hh h2))
theorem ss_retNP {P : List α → Prop} (he : EvNP X e σ F M r P) (w : Own F M H) (k : ∀ F2 H2 l vs xs, Same F F2 → Own F2 M H2 → F2 l = none → M l = none → H2 l = some (.lst vs) → A2 (r F2) vs xs → P xs → D.rt (.ref l) H2) : WSs X (.Return (some e) pos :: rest) D σ H :=
  wss_cons (ws_of (ps_ret (pe_w e)) (he F H (Same.refl _) w _ fun F2 H2 l vs xs s2 w2 n1 n2 hh h2 hp => k F2 H2 l vs xs s2 w2 n1 n2 hh h2 hp))
omit [Lams] in
theorem ss_retM (i : Nat) {l : Addr} (hs : σ[i]? = some (some (.ref l))) (k : D.rt (.ref l) H) (hN : X.N[i]? = some n := by rfl)
    (hv : Vis X.env.scope n := by first | exact Or.inl rfl | exact Or.inr (Or.inl rfl) | exact Or.inr (Or.inr rfl)) (hd : (n == ("__debug__" : Str)) = false := by decide) (hcd : (n == ("__classdict__" : Str)) = false := by decide) :
    WSs X (.Return (some (.Name n p)) pos :: rest) D σ H := wss_cons (ws_of (ps_ret (pe_var hN hv hd hcd)) ⟨_, hs, k⟩)
/-- x += e, x -= e -/
theorem ss_augA (i : Nat) {x y z : Int} (hσ : σ[i]? = some (some (.int x))) (he : EvF X e σ F M iR y) (w : Own F M H) (hz : x + y = z) (k : ∀ H2, Own F M H2 → WSs X rest D (σ.set i (some (.int z))) H2)
    (hN : X.N.Nodup) (hi : X.N[i]? = some n := by rfl) (hx : Loc X.env.scope n := by first | exact Or.inl rfl | exact Or.inr rfl) (hf : X.fn n = true ∨ X.env.scope.names.lookup n = some .local := by first | exact .inl rfl | exact .inr rfl) : WSs X (.AugAssign (.Name n p) .Add e pos :: rest) D σ H :=
  wss_cons (ws_of (ps_aug hN hi hx (pe_w e) ip_add hf) ⟨_, hσ, he F H (Same.refl _) w _ fun F2 H2 v s2 w2 hv => ⟨x, y, rfl, hv, by show (thn X rest D).nx (σ.set i (some (.int (x + y)))) H2; rw [hz]; exact k H2 (w2.lessF s2)⟩⟩)
theorem ss_augS (i : Nat) {x y z : Int} (hσ : σ[i]? = some (some (.int x))) (he : EvF X e σ F M iR y) (w : Own F M H) (hz : x - y = z) (k : ∀ H2, Own F M H2 → WSs X rest D (σ.set i (some (.int z))) H2)
    (hN : X.N.Nodup) (hi : X.N[i]? = some n := by rfl) (hx : Loc X.env.scope n := by first | exact Or.inl rfl | exact Or.inr rfl) (hf : X.fn n = true ∨ X.env.scope.names.lookup n = some .local := by first | exact .inl rfl | exact .inr rfl) : WSs X (.AugAssign (.Name n p) .Sub e pos :: rest) D σ H :=
  wss_cons (ws_of (ps_aug hN hi hx (pe_w e) ip_sub hf) ⟨_, hσ, he F H (Same.refl _) w _ fun F2 H2 v s2 w2 hv => ⟨x, y, rfl, hv, by show (thn X rest D).nx (σ.set i (some (.int (x - y)))) H2; rw [hz]; exact k H2 (w2.lessF s2)⟩⟩)
theorem ev_min2 {i j : Int} (hc : X.calm = true) (hm : X.mg "min" = none) (ha : EvF X a σ F M iR i) (hb : EvF X b σ F M iR j) (hg : Gl X "min" := by rfl) (he : starEach [a, b] X.env = (false, eval a X.env) :: starEach [b] X.env := by rfl) (he2 : starEach [b] X.env = (false, eval b X.env) :: starEach [] X.env := by rfl) (hpl : (backTo pos (starEach [b] X.env)).any (·.1) = false := by rfl) :
    EvF X (.Call (.Name "min" p) [a, b] [] pos) σ F M iR (min i j) :=
  fun F1 H1 s w Q q => we_of (pe_callB (call_min2 hc) hg hm (by decide +kernel) (pa_cons (pe_w a) (pa_cons (pe_w b) pa_nil he2) he) (he := he) (hpl := hpl)) (ha F1 H1 s w _ fun F2 H2 v s2 w2 hv => hb F2 H2 (s.trans s2) w2 _ fun F3 H3 u s3 w3 hu =>
    ⟨i, j, by rw [show v = V.int i from hv, show u = V.int j from hu], q F3 H3 _ (s2.trans s3) w3 (by show V.int _ = V.int _; congr 1; rw [Int.min_def]; split <;> split <;> omega)⟩)
theorem bx_eqB {i j : Bool} (ha : EvF X a σ F M bR i) (hb : EvF X b σ F M bR j) : Bx X (.Compare a [.Eq] [b] pos) σ F M (decide (i = j)) :=
  bx_c (ec_R op_eq ha hb (fun _ _ _ _ h => h) fun _ _ v u _ _ hv hu Q q => by
    cases (show v = V.bl i from hv); cases (show u = V.bl j from hu)
    refine ⟨rfl, ?_⟩
    rw [dec_bl]; exact q)
theorem bx_neB {i j : Bool} (ha : EvF X a σ F M bR i) (hb : EvF X b σ F M bR j) : Bx X (.Compare a [.NotEq] [b] pos) σ F M (!decide (i = j)) :=
  bx_c (ec_R op_ne ha hb (fun _ _ _ _ h => h) fun _ _ v u _ _ hv hu Q q => by
    cases (show v = V.bl i from hv); cases (show u = V.bl j from hu)
    refine ⟨rfl, ?_⟩
    rw [dec_bl]; exact q)
omit [Lams] in
theorem oR_non {F : Hp} {v : V} {x : Option α} (hn : ∀ (F : Hp) (v : V) (y : α), r F v y → v ≠ .non) (h : oR r F v x) : decide (v = .non) = x.isNone := by
  cases x with
  | none => rw [show v = V.non from h]; rfl
  | some y => exact decide_eq_false (hn F v y h)
class NotN {α : Type} (r : Rep α) : Prop where
  nn : ∀ {F : Hp} {v : V} {y : α}, r F v y → v ≠ .non
instance : NotN iR := ⟨fun h => by cases h; exact fun z => nomatch z⟩
instance : NotN bR := ⟨fun h => by cases h; exact fun z => nomatch z⟩
instance : NotN sR := ⟨fun h => by cases h.1; exact fun z => nomatch z⟩
instance : NotN (lR r) := ⟨fun ⟨a, vs, e, _⟩ => by subst e; exact fun z => nomatch z⟩
instance : NotN (t2R r s) := ⟨fun ⟨a, _, _, e, _⟩ => by subst e; exact fun z => nomatch z⟩
instance : NotN (t3R r s t) := ⟨fun ⟨a, _, _, _, e, _⟩ => by subst e; exact fun z => nomatch z⟩
theorem bx_isN [NotN r] [m : Mono r] {x : Option α} {j q1} (ha : EvF X a σ F M (oR r) x) : Bx X (.Compare a [.Is] [.Constant .none j q1] pos) σ F M x.isNone :=
  bx_c (fun F1 H1 s w Q q => wc_of (pc_isN (pe_w a)) (ha F1 H1 s w _ fun F2 H2 v s2 w2 hv => by rw [oR_non (fun _ _ _ h => NotN.nn h) hv]; exact q F2 H2 s2 w2))
theorem bx_isNot [NotN r] [m : Mono r] {x : Option α} {j q1} (ha : EvF X a σ F M (oR r) x) : Bx X (.Compare a [.IsNot] [.Constant .none j q1] pos) σ F M (!x.isNone) :=
  bx_c (fun F1 H1 s w Q q => wc_of (pc_notN (pe_w a)) (ha F1 H1 s w _ fun F2 H2 v s2 w2 hv => by rw [oR_non (fun _ _ _ h => NotN.nn h) hv]; exact q F2 H2 s2 w2))
/-- x[i] = e, x a list of one's own -/
theorem ss_put {ix : Expr} {l : Addr} {vs : List V} {xs : List α} {x : α} {k : Int} (i : Nat) {q1 q2 : Pos} [m : Mono r] (hs : σ[i]? = some (some (.ref l))) (hM : M l = some (.lst vs)) (hA : A2 (r F) vs xs) (he : EvF X e σ F M r x) (hix : EvF X ix σ F M iR k) (w : Own F M H) (h0 : 0 ≤ k) (h1 : k < xs.length)
    (kk : ∀ F2 M2 H2 v, Same F F2 → M2 = upd M l (.lst (vs.set k.toNat v)) → Own F2 M2 H2 → A2 (r F2) (vs.set k.toNat v) (xs.set k.toNat x) → WSs X rest D σ H2) (hN : X.N[i]? = some n := by rfl)
    (hv : Vis X.env.scope n := by first | exact Or.inl rfl | exact Or.inr (Or.inl rfl) | exact Or.inr (Or.inr rfl)) (hd : (n == ("__debug__" : Str)) = false := by decide) (hcd : (n == ("__classdict__" : Str)) = false := by decide)
    (z1 : swapsWithSole [.Subscript (.Name n q1) ix q2] e pos.line X.env = pure false := by rfl) (z2 : swappedStores [.Subscript (.Name n q1) ix q2] e X.env = pure none := by rfl)
    (z3 : (assignEach [.Subscript (.Name n q1) ix q2] X.env).map (·.2) = [assign (.Subscript (.Name n q1) ix q2) X.env] := by rfl)
    (z4 : ∀ v, assign (.Subscript (.Name n q1) ix q2) X.env v = (do
      let ov ← holding [v] (eval (.Name n q1) X.env)
      let iv ← holding [v, ov] (eval ix X.env)
      standAt q2
      holding [v, ov, iv] (setItem ov iv v)
      release [v, ov, iv] []) := by intro _; rfl) :
    WSs X (.Assign [.Subscript (.Name n q1) ix q2] e pos :: rest) D σ H :=
  wss_cons (ws_of (ps_asg (pe_w e) (pg_sub (pe_var hN hv hd hcd) (pe_w ix) set_list z4) z1 z2 z3) (he F H (Same.refl _) w _ fun F2 H2 v s2 w2 hv => ⟨_, hs, hix F2 H2 s2 w2 _ fun F3 H3 u s3 w3 hu => by
    have hlen := hA.len
    refine ⟨l, vs, k, k.toNat, rfl, hu, w3.m _ _ hM, ?_, kk F3 _ _ v (s2.trans s3) rfl (w3.put hM) (A2.set (Mono.mono s3 hv) k.toNat (hA.up (s2.trans s3)))⟩
    unfold ixN
    rw [if_pos h0, if_pos (by omega)]⟩))
end
end Y

/-! ### sorted of tuples of so many ints each, any number of them -/
namespace Y
open PySem PySem.Spec PyProof.Rows L2
section
variable {prog : Program} {w : World} {A : Around} {E : Value → Shared → Prop} {s : Shared}
def IsTupI (h : Heap) (v : Value) (ns : List Int) : Prop := ∃ (a : Addr) (o : Obj) (its : List Value) (n : Nat), v = .ref a ∧ h.get? a = some o ∧ o.cls = .type "tuple" ∧ o.data = .seq its.toArray n ∧ IntsAre its ns
theorem IsTupI.keeps {h h' : Heap} {v : Value} {ns : List Int} (q : IsTupI h v ns) (k : ∀ b o, h.get? b = some o → o.cls = .type "tuple" → h'.get? b = some o) : IsTupI h' v ns :=
  let ⟨a, o, its, n, e, ho, hc, hd, hi⟩ := q; ⟨a, o, its, n, e, k _ _ ho hc, hc, hd, hi⟩
theorem katlex_ints : ∀ {us ws : List Value} {ns ms : List Int} {i : Nat}, IntsAre us ns → IntsAre ws ms → ns.length = ms.length →
    PySem.W.KatLex prog w A true false (fun r s' => s' = s ∧ r = HT.lexLt ns ms) (us.zip ws) i s
  | _, _, _, _, i, .nil, .nil, _ => PySem.W.kat_nil ⟨rfl, by rw [HT.lexLt_nil_nil]⟩
  | _, _, _, _, i, .nil, .cons _ _ _, e => by simp at e
  | _, _, _, _, i, .cons _ _ _, .nil, e => by simp at e
  | _, _, _, _, i, .cons (vs := us) x t hu, .cons (vs := ws) y u hw, e => by
    rw [List.zip_cons_cons]
    refine PySem.W.kat_cons (SeqAt.EqAt.int_int x t y u prog w _ _ ?_)
    refine PySem.W.kat_go (fun h1 => ?_) fun h1 => ?_
    · have exy : x = y := by simpa using h1
      have ih := katlex_ints (i := i + 1) hu hw (by simpa using e)
      rw [HT.lexLt_cons, if_pos exy]
      exact PySem.W.kat_yes ih
    · have nxy : ¬ x = y := by simpa using h1
      rw [HT.lexLt_cons, if_neg nxy]
      exact PySem.W.kat_no (TS.oneLt_ints _ ⟨rfl, rfl⟩)
theorem tupI_cmp {vs : List Value} {k : Value → List Int} {m : Nat} (hp : ∀ v ∈ vs, IsTupI s.heap v (k v) ∧ (k v).length = m) : SrtO.Cmp prog w A s (tuples' true) (fun p => p.1 ∈ vs) (SrtO.lt2 fun v u => HT.lexLt (k v) (k u)) := by
  intro p q hm hm'
  obtain ⟨⟨a, o, its, n, e, ho, hc, hd, hi⟩, l1⟩ := hp _ hm
  obtain ⟨⟨a', o', its', n', e', ho', hc', hd', hi'⟩, l2⟩ := hp _ hm'
  show wpAny (model prog w) A (keyLt' (tuples' true) p.1 q.1) (fun r s' => s' = s ∧ r = HT.lexLt (k p.1) (k q.1)) (fun _ _ => False) s
  generalize k p.1 = ns at *
  generalize k q.1 = ms at *
  rw [e, e']
  refine PySem.W.kat_lt ho hd ho' hd' ?_
  have z1 := hi.length
  have z2 := hi'.length
  have : decide (its.toArray.size < its'.toArray.size) = false := decide_eq_false (by simp; omega)
  rw [this]
  exact katlex_ints hi hi' (by omega)
theorem tupI_firsts {h : Heap} {k : Value → List Int} {m : Nat} (hm0 : 0 < m) : ∀ {vs : List Value}, (∀ v ∈ vs, IsTupI h v (k v) ∧ (k v).length = m) → ∃ fs : List Value, PySem.W.KatTups h vs fs ∧ fs.length = vs.length ∧ ∀ f ∈ fs, ∃ x t, f = Value.int x t
  | [], _ => ⟨[], .nil, rfl, fun _ hm => by simp at hm⟩
  | v :: vs, hp => by
    obtain ⟨fs, h1, h2, h3⟩ := tupI_firsts hm0 (vs := vs) fun v' hm => hp v' (List.mem_cons_of_mem _ hm)
    obtain ⟨⟨a, o, its, n, e, ho, hc, hd, hi⟩, hl⟩ := hp v List.mem_cons_self
    generalize k v = ns at *
    cases hi with
    | nil => simp at hl; omega
    | cons x t r =>
      refine ⟨.int x t :: fs, by rw [e]; exact PySem.W.KatTups.cons ho hc hd rfl h1, by simp [h2], fun f hf => ?_⟩
      rcases List.mem_cons.mp hf with rfl | hf
      · exact ⟨x, t, rfl⟩
      · exact h3 f hf
theorem tupI_sortable {a : Addr} {vs : List Value} {k : Value → List Int} {m : Nat} (hm0 : 0 < m) (h0 : 0 < vs.length) (hp : ∀ v ∈ vs, IsTupI s.heap v (k v) ∧ (k v).length = m) (ha : ∀ o, s.heap.get? a = some o → o.cls ≠ .type "tuple") :
    SrtO.SortableO prog w A s a vs fun v u => HT.lexLt (k v) (k u) := by
  intro h' keep
  have hp' : ∀ v ∈ vs, IsTupI h' v (k v) ∧ (k v).length = m := fun v hv => ⟨(hp v hv).1.keeps fun b o e c => keep b o (fun z => by subst z; exact ha o e c) e, (hp v hv).2⟩
  obtain ⟨fs, h1, h2, h3⟩ := tupI_firsts hm0 hp'
  refine ⟨tuples' true, fun Q E hq => ?_, tupI_cmp hp'⟩
  refine PySem.W.kat_kind (T := .type "int") h1 (by omega) (fun f hm => ?_) (by rfl) ?_
  · obtain ⟨x, t, rfl⟩ := h3 f hm
    exact PySem.W.Looks.now
  · rw [show (Value.type "int" != Value.type "tuple") = true by first | decide +kernel | rfl | decide]
    exact hq
theorem sorted_tupI {l : Addr} {vs : List Value} {k : Value → List Int} {m : Nat} {Q : Value → Shared → Prop} (hm0 : 0 < m) (hl : s.heap.IsList l vs.toArray) (hz : vs.length ≤ sizeLine) (hp : ∀ v ∈ vs, IsTupI s.heap v (k v) ∧ (k v).length = m)
    (h : ∀ (h' : Heap) (d : Addr) (out : List Value), SrtO.Srtd (fun v u => HT.lexLt (k v) (k u)) out → SrtO.Stb (fun v u => HT.lexLt (k v) (k u)) out vs → (∀ b o, s.heap.get? b = some o → h'.get? b = some o) → s.heap.objs.size ≤ d → (∃ n, h'.get? d = some (seqObj "list" out.toArray n)) → Q (.ref d) { s with heap := h' }) :
    wpAny (model prog w) A (call (.builtin "sorted") [.ref l]) Q E s := by
  refine SrtO.sorted_ord (NtL.swo_lexL k) hl hz (fun h2 h1 a ha kk => ?_) fun out hs hb => h _ _ out hs hb (fun b o e => sortedAll_old e) (Nat.le_succ _) (sortedAll_at s.heap vs out.toArray)
  refine tupI_sortable (s := { s with heap := h1 }) hm0 (by omega) (fun v hv => ⟨(hp v hv).1.keeps fun b o e _ => (kk b o e).2, (hp v hv).2⟩) fun o e => ?_
  have e' : some o = some (seqObj "list" vs.toArray 0) := e.symm.trans ha
  cases e'
  exact fun c => absurd (Value.type.inj c) (by decide)
end

/-- the ints of a tuple that stands in H -/
def keyV (H : Hp) (v : V) : List Int := match v with
  | .ref t => match H t with
    | some (.tup us) => us.filterMap fun u => match u with
      | .int i => some i
      | _ => none
    | _ => []
  | _ => []
theorem keyV_of {H : Hp} {t : Addr} {ns : List Int} (h : H t = some (.tup (ns.map V.int))) : keyV H (.ref t) = ns := by
  unfold keyV
  simp only [h]
  clear h
  induction ns with
  | nil => rfl
  | cons n ns ih => rw [List.map_cons, List.filterMap_cons]; exact congrArg (n :: ·) ih
def rSortedT (K : PySem.W.Frag) : List V → Hp → VK → Prop := fun vs H Q => ∃ (a : Addr) (xs : List V) (m : Nat), 0 < m ∧ vs = [V.ref a] ∧ SqL K H a xs ∧ (∀ x ∈ xs, ∃ (t : Addr) (ns : List Int), x = V.ref t ∧ H t = some (.tup (ns.map V.int)) ∧ ns.length = m) ∧
  ∀ ys p, ys.Perm xs → ys.Pairwise (fun x y => HT.lexLt (keyV H y) (keyV H x) = false) → H p = none → Q (.ref p) (upd H p (.lst ys))
section
variable {X : Cx}
theorem cr_sortedT : CallR X (.builtin "sorted") (rSortedT X.K) := by
  intro pins s σ H vs us Q I r h
  obtain ⟨a, xs, m, hm0, rfl, hs, hx, q⟩ := h
  obtain ⟨its, rv, hl, hz⟩ := I.list hs
  obtain ⟨u, rfl, ru⟩ := vals1 r
  obtain rfl : u = Value.ref a := ru
  obtain ⟨e1, e2⟩ := refs_back rv fun x hm => by
    obtain ⟨t, ns, e, _⟩ := hx x hm
    exact ⟨t, e⟩
  refine sorted_tupI (k := fun u => keyV H (backV u)) hm0 hl.isList (by rw [← rv.length]; exact hz) (fun v hv => ?_) fun h' d out h1 h2 kp hd hn => ?_
  · obtain ⟨t, rfl⟩ := e2 v hv
    have hm : V.ref t ∈ xs := by rw [e1]; exact List.mem_map.mpr ⟨_, hv, rfl⟩
    obtain ⟨t', ns, e, ht, hl⟩ := hx _ hm
    cases e
    obtain ⟨_, its2, r2, o, ho, hc, n, hd⟩ := I.hok _ _ ht
    have hk : keyV H (backV (Value.ref t)) = ns := keyV_of ht
    rw [hk]
    exact ⟨⟨t, o, its2, n, rfl, ho, hc, hd, r2.ints⟩, hl⟩
  · have h3 : ∀ u ∈ out, ∃ a, u = Value.ref a := fun u hu => e2 u (h2.perm.mem_iff.mp hu)
    obtain ⟨n, hn⟩ := hn
    have hp : (out.map backV).Perm xs := by rw [e1]; exact h2.perm.map backV
    have hlen : (out.map backV).length ≤ sizeLine := by rw [hp.length_eq]; exact hz
    exact ⟨.ref d, upd H d (.lst (out.map backV)), I.laid (t' := s.toks) kp hd ⟨hlen, out, n, vals_back h3, hn⟩, rfl, q _ d hp (List.pairwise_map.mpr h1) (I.hok.fresh hd)⟩
end

/-! the sorted list itself -/
def leK {α : Type} (key : α → List Int) (x y : α) : Bool := !HT.lexLt (key y) (key x)
def srtK {α : Type} (key : α → List Int) (xs : List α) : List α := xs.mergeSort (leK key)
theorem lex_anti : ∀ {xs ys : List Int}, xs.length = ys.length → HT.lexLt xs ys = false → HT.lexLt ys xs = false → xs = ys
  | [], [], _, _, _ => rfl
  | [], _ :: _, e, _, _ => by simp at e
  | _ :: _, [], e, _, _ => by simp at e
  | x :: xs, y :: ys, e, h1, h2 => by
    rw [HT.lexLt_cons] at h1 h2
    by_cases q : x = y
    · rw [if_pos q] at h1; rw [if_pos q.symm] at h2
      rw [q, lex_anti (by simpa using e) h1 h2]
    · rw [if_neg q] at h1; rw [if_neg (Ne.symm q)] at h2
      have := of_decide_eq_false h1; have := of_decide_eq_false h2
      omega
/-- two arrangements by one order that tells all things apart are one -/
theorem pw_uniq {α : Type} {R : α → α → Prop} : ∀ {xs ys : List α}, xs.Perm ys → xs.Pairwise R → ys.Pairwise R → (∀ x ∈ xs, ∀ y ∈ xs, R x y → R y x → x = y) → xs = ys
  | [], ys, h, _, _, _ => (List.nil_perm.mp h).symm
  | x :: xs, [], h, _, _, _ => absurd h (by simp)
  | x :: xs, y :: ys, h, h1, h2, ha => by
    have exy : x = y := by
      have m1 : y ∈ x :: xs := h.mem_iff.mpr (by simp)
      have m2 : x ∈ y :: ys := h.mem_iff.mp (by simp)
      rcases List.mem_cons.mp m1 with e | m1'
      · exact e.symm
      · rcases List.mem_cons.mp m2 with e | m2'
        · exact e
        · exact ha x (by simp) y m1 ((List.pairwise_cons.mp h1).1 y m1') ((List.pairwise_cons.mp h2).1 x m2')
    subst exy
    rw [pw_uniq h.cons_inv (List.pairwise_cons.mp h1).2 (List.pairwise_cons.mp h2).2 fun a ha' b hb' => ha a (List.mem_cons_of_mem _ ha') b (List.mem_cons_of_mem _ hb')]
theorem leK_trans {α : Type} {key : α → List Int} (x y z : α) (h1 : leK key x y = true) (h2 : leK key y z = true) : leK key x z = true := by
  unfold leK at *
  simp only [Bool.not_eq_true'] at *
  exact NtL.lex_tr _ _ _ h1 h2
theorem leK_total {α : Type} {key : α → List Int} (x y : α) : (leK key x y || leK key y x) = true := by
  unfold leK
  cases h : HT.lexLt (key y) (key x) with
  | false => rfl
  | true => rw [NtL.lex_asym _ _ h]; rfl
theorem srtK_perm {α : Type} {key : α → List Int} (xs : List α) : (srtK key xs).Perm xs := List.mergeSort_perm _ _
theorem srtK_pw {α : Type} {key : α → List Int} (xs : List α) : (srtK key xs).Pairwise fun x y => HT.lexLt (key y) (key x) = false := by
  have h := List.pairwise_mergeSort (le := leK key) leK_trans leK_total xs
  exact h.imp fun {a b} q => by unfold leK at q; simpa using q
theorem srtK_uniq {α : Type} {key : α → List Int} {xs ys : List α} {m : Nat} (hk : ∀ x ∈ xs, (key x).length = m) (inj : ∀ x y, key x = key y → x = y) (hp : ys.Perm xs) (h : ys.Pairwise fun x y => HT.lexLt (key y) (key x) = false) : ys = srtK key xs :=
  pw_uniq (hp.trans (srtK_perm xs).symm) h (srtK_pw xs) fun x hx y hy h1 h2 => inj x y (lex_anti (by rw [hk x (hp.mem_iff.mp hx), hk y (hp.mem_iff.mp hy)]) h2 h1)
theorem srtK_mem {α : Type} {key : α → List Int} {xs : List α} {x : α} : x ∈ srtK key xs ↔ x ∈ xs := (srtK_perm xs).mem_iff
theorem srtK_len {α : Type} {key : α → List Int} {xs : List α} : (srtK key xs).length = xs.length := (srtK_perm xs).length_eq
/-- what stands for a tuple of ints -/
class TupI {α : Type} (r : Rep α) where
  key : α → List Int
  m : Nat
  pos : 0 < m
  len : ∀ x, (key x).length = m
  inj : ∀ x y, key x = key y → x = y
  tup : ∀ {F : Hp} {v : V} {x : α}, r F v x → ∃ t, v = .ref t ∧ F t = some (.tup ((key x).map V.int))
instance : TupI (t2R iR iR) where
  key := fun x => [x.1, x.2]
  m := 2
  pos := by decide
  len := fun _ => rfl
  inj := fun x y h => by cases x; cases y; simp at h; simp [h]
  tup := fun ⟨a, u, w, e, h, h1, h2⟩ => ⟨a, e, by cases h1; cases h2; exact h⟩
instance : TupI (t3R iR iR iR) where
  key := fun x => [x.1, x.2.1, x.2.2]
  m := 3
  pos := by decide
  len := fun _ => rfl
  inj := fun x y h => by obtain ⟨a, b, c⟩ := x; obtain ⟨a', b', c'⟩ := y; simp at h; simp [h]
  tup := fun ⟨a, u, w, z, e, h, h1, h2, h3⟩ => ⟨a, e, by cases h1; cases h2; cases h3; exact h⟩
theorem A2.perm' {α β : Type} {p : α → β → Prop} {as as' : List α} (h : as.Perm as') : ∀ {bs : List β}, A2 p as bs → ∃ bs' : List β, bs'.Perm bs ∧ A2 p as' bs' := by
  induction h with
  | nil => exact fun {bs} t => ⟨bs, .refl _, t⟩
  | cons a _ ih =>
    intro bs t
    cases t with
    | cons q t =>
      obtain ⟨bs', h1, h2⟩ := ih t
      exact ⟨_, h1.cons _, .cons q h2⟩
  | swap a b l =>
    intro bs t
    cases t with
    | cons q1 t => cases t with
      | cons q2 t => exact ⟨_, .swap _ _ _, .cons q2 (.cons q1 t)⟩
  | trans _ _ ih1 ih2 =>
    intro bs t
    obtain ⟨b1, h1, t1⟩ := ih1 t
    obtain ⟨b2, h2, t2⟩ := ih2 t1
    exact ⟨b2, h2.trans h1, t2⟩
theorem A2.perm {α β : Type} {p : α → β → Prop} {as as' : List α} {bs : List β} (h : as'.Perm as) (t : A2 p as bs) : ∃ bs' : List β, bs'.Perm bs ∧ A2 p as' bs' := A2.perm' h.symm t
theorem A2.pw {α β : Type} {p : α → β → Prop} {R : α → α → Prop} {S : β → β → Prop} (f : ∀ a b a' b', p a b → p a' b' → R a a' → S b b') : ∀ {as : List α} {bs : List β}, A2 p as bs → as.Pairwise R → bs.Pairwise S
  | _, _, .nil, _ => .nil
  | _, _, .cons q t, h => by
    rw [List.pairwise_cons] at h ⊢
    refine ⟨fun b hb => ?_, t.pw f h.2⟩
    obtain ⟨i, hi⟩ := List.getElem?_of_mem hb
    obtain ⟨a, ha, hp⟩ := t.get hi
    exact f _ _ _ _ q hp (h.1 a (List.mem_of_getElem? ha))
section
variable [Lams] {X : Cx} {σ : L2.St} {F M H : Hp} {a b c e : Expr} {pos p p2 : Pos} {α β γ δ : Type} {r : Rep α}
theorem en_sortedT [m : Mono r] [t : TupI r] {xs : List α} (hm : X.mg "sorted" = none) (ha : EvF X a σ F M (rdR X.K M r) xs) (hg : Gl X "sorted" := by rfl) (he : starEach [a] X.env = (false, eval a X.env) :: starEach [] X.env := by rfl) (hpl : (backTo pos (starEach [] X.env)).any (·.1) = false := by rfl) :
    EvN X (.Call (.Name "sorted" p) [a] [] pos) σ F M r (srtK t.key xs) :=
  fun F1 H1 s w Q q => we_of (pe_callB cr_sortedT hg hm (by decide +kernel) (pa_cons (pe_w a) pa_nil he) (he := he) (hpl := hpl)) (ha F1 H1 s w _ fun F2 H2 v s2 w2 ⟨l, vs, e, hl, h2⟩ =>
    ⟨l, vs, t.m, t.pos, by rw [e], w2.sq hl, fun x hx => by
      obtain ⟨i, hi⟩ := List.getElem?_of_mem hx
      obtain ⟨y, hy, hr⟩ := h2.getL hi
      obtain ⟨u, hu, ht⟩ := t.tup hr
      exact ⟨u, _, hu, w2.f _ _ ht, t.len y⟩, fun ys p hp hpw hn => by
      obtain ⟨xs', hp', hA⟩ := A2.perm hp h2
      have hkey : ∀ v x, r F2 v x → keyV H2 v = t.key x := fun v x hr => by
        obtain ⟨u, hu, ht⟩ := t.tup hr
        rw [hu]; exact keyV_of (w2.f _ _ ht)
      have hs : xs' = srtK t.key xs := srtK_uniq (m := t.m) (fun x _ => t.len x) t.inj hp' (hA.pw (fun a b a' b' h1 h2 h3 => by rw [← hkey _ _ h1, ← hkey _ _ h2]; exact h3) hpw)
      rw [hs] at hA
      exact q F2 _ p ys s2 (w2.more hn) (w2.noF hn) (w2.noM hn) upd_same hA⟩)
/-- sorted of ints -/
def srtI (xs : List Int) : List Int := xs.mergeSort (fun x y => decide (x ≤ y))
omit [Lams] in
theorem srtI_perm (xs : List Int) : (srtI xs).Perm xs := List.mergeSort_perm _ _
omit [Lams] in
theorem srtI_pw (xs : List Int) : (srtI xs).Pairwise (· ≤ ·) :=
  (List.pairwise_mergeSort (le := fun x y : Int => decide (x ≤ y)) (fun a b c h1 h2 => by simp at *; omega) (fun a b => by simp; omega) xs).imp fun {a b} h => by simpa using h
omit [Lams] in
theorem srtI_uniq {xs ys : List Int} (hp : ys.Perm xs) (h : ys.Pairwise (· ≤ ·)) : ys = srtI xs := pw_uniq (hp.trans (srtI_perm xs).symm) h (srtI_pw xs) fun x _ y _ h1 h2 => by omega
omit [Lams] in
theorem srtI_len {xs : List Int} : (srtI xs).length = xs.length := (srtI_perm xs).length_eq
theorem en_sortedI {xs : List Int} (hm : X.mg "sorted" = none) (ha : EvF X a σ F M (rdR X.K M iR) xs) (hg : Gl X "sorted" := by rfl) (he : starEach [a] X.env = (false, eval a X.env) :: starEach [] X.env := by rfl) (hpl : (backTo pos (starEach [] X.env)).any (·.1) = false := by rfl) :
    EvN X (.Call (.Name "sorted" p) [a] [] pos) σ F M iR (srtI xs) :=
  fun F1 H1 s w Q q => we_of (pe_callB cr_sortedI hg hm (by decide +kernel) (pa_cons (pe_w a) pa_nil he) (he := he) (hpl := hpl)) (ha F1 H1 s w _ fun F2 H2 v s2 w2 ⟨l, vs, e, hl, h2⟩ =>
    ⟨l, xs, by rw [e], by rw [← iR_map h2]; exact w2.sq hl, fun ns p hp hpw hn => by
      rw [srtI_uniq hp hpw]
      exact q F2 _ p _ s2 (w2.more hn) (w2.noF hn) (w2.noM hn) upd_same (A2.mapI V.int _)⟩)
end
end Y

/-! ### sorted(set(xs)), xs a list of ints -/
namespace Y
open PySem PySem.Spec PyProof.Rows L2
section
variable {P : Program} {w : World} {A : Around} {E : Value → Shared → Prop} {s : Shared}
/-- a new set, as it is laid -/
def sNew (w : World) : Obj := { cls := .type "set", dict := none, data := .set #[] 0 (.fresh 0 0 (!w.params.followText "set-order")) }
/-- behind set(l): the set of these ints stands at the next address, all else as it was -/
def SetMade (w : World) (s s2 : Shared) (ns : List Int) : Prop := ∃ (h' : Heap) (tk c : Nat), s2 = { s with heap := h', toks := tk } ∧ SetR w h' s.heap.objs.size (fun j => decide (j ∈ ns)) c ∧ c ≤ ns.length ∧ (∀ b o, s.heap.get? b = some o → h'.get? b = some o)
theorem set_of_list {l : Addr} {items : Array Value} (ns : List Int) {Q : Value → Shared → Prop} (hh : A.handled = none) (hl : s.heap.IsList l items) (hit : IntsAre items.toList ns) (hb : ns.length + 1 < scanBound)
    (h : ∀ s2, SetMade w s s2 ns → Q (.ref s.heap.objs.size) s2) : wpAny (model P w) A (call (.type "set") [.ref l]) Q E s := by
  have hn : items.size = ns.length := by have q := hit.length; simpa using q
  obtain ⟨cc, tt, hmro⟩ := F.called_set.mro
  have z1 := F.called_set.made
  have z2 := F.called_set.sub
  refine wpAny_call (codeAny_of_tree ?_)
  show wpAny _ _ (callAny (.type "set") _) _ _ _
  refine wpAny_pure ⟨Code.quiet_builtin _ (by decide +kernel), codeAny_builtin F.entry_type_call ?_⟩
  rw [Around.under_plain (weight_type_call_type "set" [.ref l] []) rfl]
  have z3 := F.called_set.notType
  have z4 := F.called_set.canCreate
  have z5 := F.typeCall_set_1 (.ref l)
  repeat (any_goals (first | assumption | wp_step))
  refine codeAny_mono (code_set_led1 (.ref l) (E := E) (Q₁ := fun obj t => obj = .ref s.heap.objs.size ∧ t = { s with heap := s.heap.push (sNew w) }) ⟨rfl, rfl⟩) fun r t hr => ?_
  match r, hr with
  | .error e, hr => exact hr
  | .ok .next, hr => exact hr.elim
  | .ok .brk, hr => exact hr.elim
  | .ok .cont, hr => exact hr.elim
  | .ok (.ret obj), hr =>
    obtain ⟨rfl, rfl⟩ := hr
    have at0 : (s.heap.push (sNew w)).get? s.heap.objs.size = some (sNew w) := Heap.get?_push_size _ rfl
    have ty0 : Shared.TypeIs { s with heap := s.heap.push (sNew w) } (.ref s.heap.objs.size) "set" := ⟨_, at0, rfl⟩
    have z6 := F.called_set.init.lookup
    have z7 := F.called_set.init.bind (.ref s.heap.objs.size)
    repeat (any_goals (first | assumption | wp_step))
    refine codeAny_mono (codeAny_call_builtin (R := wants (fun r t => r = .none ∧ SetMade w s t ns) E) F.called_set.init.plain F.entry_set_init (check_set_init_1 ty0 ?_)) fun r2 t2 hr2 => ?_
    · obtain ⟨ol, hol, hcl, nl, hdl⟩ := hl
      obtain ⟨ocls, odict, odata, oslots⟩ := ol
      simp only at hcl hdl
      subst hcl hdl
      have hol1 : (s.heap.push (sNew w)).get? l = some { cls := .type "list", dict := odict, data := .seq items nl, slots := oslots } := Heap.get?_push_of_some _ hol
      have y1 := F.sub_list_set
      have y2 := F.sub_list_frozenset
      have y3 : (Value.type "list" == Value.type "dict") = false := by decide
      have hl1 : (s.heap.push (sNew w)).IsList l items := ⟨_, hol1, rfl, nl, rfl⟩
      unfold Builtin.«set.__init__» noKeywords Builtin.Frozenset.updateFrom
      generalize hPI : pyIter = PI
      wp_walk
      subst hPI
      refine wpAny_pyIter_list hl1 (wpAny_bind (wpAny_runValue ?_))
      have lt0 : l < s.heap.objs.size := Heap.lt_size hol
      have hd3 : A.in1.in1.in1.handled = none := by simp [hh]
      have sz1 : (s.heap.push (sNew w)).objs.size = s.heap.objs.size + 1 := Heap.size_push ..
      have ne1 : l ≠ (s.heap.push (sNew w)).objs.size := by rw [sz1]; exact Nat.ne_of_lt (Nat.lt_succ_of_lt lt0)
      have nin : s.heap.objs.size ∉ [(s.heap.push (sNew w)).objs.size, l] := by
        rw [sz1]
        intro q
        rcases List.mem_cons.mp q with q | q
        · exact absurd q (Nat.ne_of_lt (Nat.lt_succ_self _))
        · exact absurd (List.mem_singleton.mp q) (Nat.ne_of_gt lt0)
      have val : ∀ (i : Nat) (v : Value), items[i]? = some v → ∃ k t, ns[i]? = some k ∧ v = .int k t := fun i v hv => by
        have hi : i < ns.length := by rw [← hn]; exact (Array.getElem?_eq_some_iff.mp hv).1
        obtain ⟨t, e⟩ := PyProof.Rows.IntsAre.int_at hit i v (by rw [Array.getElem?_toList]; exact hv)
        exact ⟨ns[i], t, List.getElem?_eq_getElem hi, by rw [e]; simp [hi]⟩
      refine set_update_ints ((Walks.list hd3 _ l ne1 items).toS) s.heap.objs.size nin ns hn hb val (items.size - 0) 0 _ (by omega) (Nat.zero_le _) ⟨⟨_, Heap.get?_push_size _ rfl, rfl, rfl⟩, hl1.push _⟩ ?st ?fin
      case st => exact ⟨0, Nat.le_refl 0, setR_new_at (Heap.get?_push_of_some _ at0)⟩
      case fin =>
        rintro ⟨h', g2, d', tk', os'⟩ c' hm hc' hS'
        obtain rfl : g2 = s.gens := hm.gens
        obtain rfl : d' = s.drawn := hm.drawn
        obtain rfl : os' = s.os := hm.os
        show wpAny _ _ _ _ _ _
        refine wpAny_pure ?_
        show wpAny _ _ (ret Value.none) _ _ _
        refine wpAny_pure ⟨rfl, h', tk', c', rfl, hS', by rw [← hn]; exact hc', fun b o e => ?_⟩
        have lb : b < s.heap.objs.size := Heap.lt_size e
        refine hm.heap b o (fun q => ?_) (Heap.get?_push_of_some _ (Heap.get?_push_of_some _ e))
        rcases List.mem_cons.mp q with q | q
        · exact absurd q (Nat.ne_of_lt lb)
        · rw [List.mem_singleton, sz1] at q
          exact absurd q (Nat.ne_of_lt (Nat.lt_succ_of_lt lb))
    · match r2, hr2 with
      | .error e, hr2 => exact hr2
      | .ok .next, hr2 => exact hr2.elim
      | .ok .brk, hr2 => exact hr2.elim
      | .ok .cont, hr2 => exact hr2.elim
      | .ok (.ret r), hr2 =>
        obtain ⟨rfl, hM⟩ := hr2
        have hM' := id hM
        obtain ⟨h', tk, c, rfl, _⟩ := hM'
        repeat (any_goals (first | assumption | wp_step))
        exact h _ hM
end

/-- a list's ints, each once, rising -/
def insU (x : Int) : List Int → List Int
  | [] => [x]
  | y :: t => if x < y then x :: y :: t else if x = y then y :: t else y :: insU x t
def uset (xs : List Int) : List Int := xs.foldr insU []
theorem mem_insU {x k : Int} : ∀ {xs : List Int}, k ∈ insU x xs ↔ k = x ∨ k ∈ xs
  | [] => by simp [insU]
  | y :: t => by
    unfold insU
    by_cases h : x < y
    · rw [if_pos h]; simp
    · rw [if_neg h]
      by_cases h2 : x = y
      · rw [if_pos h2, h2]; simp
      · rw [if_neg h2, List.mem_cons, mem_insU, List.mem_cons]
        constructor
        · rintro (h | h | h) <;> simp [h]
        · rintro (h | h | h) <;> simp [h]
theorem mem_uset {k : Int} : ∀ {xs : List Int}, k ∈ uset xs ↔ k ∈ xs
  | [] => by simp [uset]
  | x :: t => by
    show k ∈ insU x (uset t) ↔ _
    rw [mem_insU, mem_uset, List.mem_cons]
theorem pw_insU {x : Int} : ∀ {xs : List Int}, xs.Pairwise (· < ·) → (insU x xs).Pairwise (· < ·)
  | [], _ => List.pairwise_singleton _ _
  | y :: t, h => by
    obtain ⟨h1, h2⟩ := List.pairwise_cons.mp h
    unfold insU
    by_cases a : x < y
    · rw [if_pos a]
      refine List.pairwise_cons.mpr ⟨fun z hz => ?_, h⟩
      rcases List.mem_cons.mp hz with rfl | hz
      · exact a
      · have := h1 z hz; omega
    · rw [if_neg a]
      by_cases b : x = y
      · rw [if_pos b]; exact h
      · rw [if_neg b]
        refine List.pairwise_cons.mpr ⟨fun z hz => ?_, pw_insU h2⟩
        rcases mem_insU.mp hz with rfl | hz
        · omega
        · exact h1 z hz
theorem pw_uset : ∀ xs : List Int, (uset xs).Pairwise (· < ·)
  | [] => .nil
  | x :: t => pw_insU (pw_uset t)
theorem lt_uniq : ∀ {xs ys : List Int}, xs.Pairwise (· < ·) → ys.Pairwise (· < ·) → (∀ k, k ∈ xs ↔ k ∈ ys) → xs = ys
  | [], [], _, _, _ => rfl
  | [], y :: ys, _, _, h => absurd ((h y).mpr (by simp)) (by simp)
  | x :: xs, [], _, _, h => absurd ((h x).mp (by simp)) (by simp)
  | x :: xs, y :: ys, h1, h2, h => by
    obtain ⟨a1, a2⟩ := List.pairwise_cons.mp h1
    obtain ⟨b1, b2⟩ := List.pairwise_cons.mp h2
    have e : x = y := by
      rcases List.mem_cons.mp ((h x).mp (by simp)) with q | q
      · exact q
      · rcases List.mem_cons.mp ((h y).mpr (by simp)) with q2 | q2
        · exact q2.symm
        · have := b1 x q; have := a1 y q2; omega
    subst e
    rw [lt_uniq a2 b2 fun k => ?_]
    constructor
    · intro hk
      rcases List.mem_cons.mp ((h k).mp (List.mem_cons_of_mem _ hk)) with q | q
      · have := a1 k hk; omega
      · exact q
    · intro hk
      rcases List.mem_cons.mp ((h k).mpr (List.mem_cons_of_mem _ hk)) with q | q
      · have := b1 k hk; omega
      · exact q
section
variable {P : Program} {w : World} {A : Around} {E : Value → Shared → Prop} {s : Shared} {a : Addr}
/-- sorted of a set of ints, however many -/
theorem sorted_setN {S : Int → Bool} {n : Nat} {Q : Value → Shared → Prop} (R : SetR w s.heap a S n) (hh : A.handled = none)
    (hQ : ∀ s' p (out : Array Value) (c : Nat) (ns : List Int), (∀ b o, s.heap.get? b = some o → s'.heap.get? b = some o) → s'.gens = s.gens → s'.os = s.os → s.heap.objs.size ≤ p →
      s'.heap.get? p = some (seqObj "list" out c) → IntsAre out.toList ns → ns.Pairwise (· < ·) → (∀ k, k ∈ ns ↔ S k = true) → ns.length ≤ sizeLine → Q (.ref p) s') : wpAny (model P w) A (call (.builtin "sorted") [.ref a]) Q E s := by
  obtain ⟨o, es, ep, t, ho, hex, hd, g, nd, hm, hb, hf, hn, hr, hl⟩ := R
  refine Calls.call_function_entry kind_sorted plain_sorted entry_sorted (args_sorted1 _) ?_
  unfold Builtin.«sorted»
  refine wpAny_bind (m := checkCount "sorted" 1 1 _) (wpAny_pure (wpAny_bind ?_))
  refine collect_set (A := A.in1) hh ⟨o, ho, hex.1, hd⟩ hf hb hr hl fun s1 vs k1 hz g1 o1 pm => ?_
  have hle : vs.length ≤ sizeLine := by
    rw [pm.length_eq, List.length_map, Array.length_toList]
    exact Nat.le_of_lt (Nat.lt_of_lt_of_le hb (by decide))
  have hI : IntsAre vs (vs.map Builtin.Re.reRawOf) := ints_of vs fun v hv => by
    obtain ⟨e, he, q⟩ := List.mem_map.mp (pm.mem_iff.mp hv)
    obtain ⟨k, tk, z, _⟩ := g e he
    exact ⟨k, tk, q ▸ z⟩
  have pk : (vs.map Builtin.Re.reRawOf).Perm (es.toList.map keyOf) := by have q := pm.map Builtin.Re.reRawOf; rwa [List.map_map] at q
  refine wpAny_bind (wpAny_newList ?_ hle)
  have at1 : (s1.heap.push (seqObj "list" vs.toArray 0)).get? s1.heap.objs.size = some (seqObj "list" vs.toArray 0) := Heap.get?_push_size _ rfl
  refine wpAny_bind (wpAny_holding (wpAny_call_entry slot_list_sort ⟨_, at1, rfl⟩ entry_list_sort (SrtO.list_sort_ord SrtO.swo_int at1 hle (fun h2 => SrtO.ints_sortable hI h2) fun out h1 h2 => ⟨_, rfl, ?_⟩) (args_list_sort _)))
  obtain ⟨a1, a2, a3⟩ := SrtO.ints_out hI h1 h2
  obtain ⟨c, hc⟩ := sortedHeap_at (vs := vs) (out := out.toArray) at1
  have pn := a2.trans pk
  refine wpAny_pure ⟨_, rfl, hQ _ s1.heap.objs.size out.toArray c _ (fun b u e => ?_) g1 o1 hz hc (by simpa using a1) (lt_of_le_nodup _ a3 (pn.nodup_iff.mpr nd)) (fun k => by rw [pn.mem_iff, ← hm k]) ?_⟩
  · have q := k1 b u e
    have lt := Heap.lt_size q
    show (sortedHeap (s1.heap.push (seqObj "list" vs.toArray 0)) s1.heap.objs.size vs out.toArray).get? b = some u
    rw [sortedHeap_old (Nat.ne_of_lt lt) (by rw [size_push']; exact Nat.lt_succ_of_lt lt)]
    exact Heap.get?_push_of_some _ q
  · rw [a2.length_eq, List.length_map]; exact hle
end
def rSetL (K : PySem.W.Frag) (w : World) : List V → Hp → VK → Prop := fun vs H Q => ∃ (a : Addr) (ns : List Int), vs = [V.ref a] ∧ SqL K H a (ns.map V.int) ∧ ns.length < 2000 ∧ ∀ p c, H p = none → Q (.ref p) (upd H p (SetO w p (fun j => decide (j ∈ ns)) c))
def rSortedSetN (w : World) : List V → Hp → VK → Prop := fun vs H Q => ∃ (a : Addr) (S : Int → Bool) (n : Nat), vs = [V.ref a] ∧ H a = some (SetO w a S n) ∧ ∀ (ns : List Int) (p : Addr), ns.Pairwise (· < ·) → (∀ k : Int, k ∈ ns ↔ S k = true) → H p = none → Q (.ref p) (upd H p (.lst (ns.map V.int)))
section
variable {X : Cx}
theorem cr_setL (hc : X.calm = true) : CallR X (.type "set") (rSetL X.K X.w) := by
  intro pins s σ H vs us Q I r h
  obtain ⟨a, ns, rfl, hs, hz, q⟩ := h
  obtain ⟨its, rv, hl, _⟩ := I.list hs
  rw [Vals.ref1 r]
  refine set_of_list ns (I.ok.hd hc) hl.isList (by simpa using rv.ints) (by unfold scanBound; omega) fun s2 hM => ?_
  obtain ⟨h', tk, c, rfl, hR, hcl, kp⟩ := hM
  have hn : H s.heap.objs.size = none := I.hok.fresh (Nat.le_refl _)
  exact ⟨.ref s.heap.objs.size, _, I.laid (t' := tk) kp (Nat.le_refl _) (setO_new hR), rfl, q _ c hn⟩
theorem cr_sortedSetN (hc : X.calm = true) : CallR X (.builtin "sorted") (rSortedSetN X.w) := by
  intro pins s σ H vs us Q I r h
  obtain ⟨a, S, n, rfl, ha, q⟩ := h
  have R := setO_get I ha
  rw [Vals.ref1 r]
  refine sorted_setN R (I.ok.hd hc) fun s' p out c ns k g o hp hg hi hs hm hl => ?_
  have hn : H p = none := I.hok.fresh hp
  have hle : (ns.map V.int).length ≤ sizeLine := by rw [List.length_map]; exact hl
  obtain ⟨h', g', d', t', o'⟩ := s'
  obtain rfl : g' = s.gens := g
  obtain rfl : o' = s.os := o
  exact ⟨.ref p, upd H p (.lst (ns.map V.int)), I.call (ch := []) (d' := d') (t' := t') (Un.laid k hp hn) (I.hok.laid k hp ⟨hle, out.toList, c, vals_of_ints hi, by simpa using hg⟩) I.bare (fun _ z => nomatch z), rfl, q ns p hs hm hn⟩
variable [Lams] {σ : L2.St} {F M H : Hp} {a b c e : Expr} {pos p p2 pos2 : Pos}
theorem en_sortedSet {xs : List Int} (hc : X.calm = true) (hm : X.mg "sorted" = none) (hm2 : X.mg "set" = none) (ha : EvF X a σ F M (rdR X.K M iR) xs) (hz : xs.length < 2000) (hg : Gl X "sorted" := by rfl) (hg2 : Gl X "set" := by rfl)
    (he : starEach [a] X.env = (false, eval a X.env) :: starEach [] X.env := by rfl) (hpl : (backTo pos2 (starEach [] X.env)).any (·.1) = false := by rfl)
    (he2 : starEach [.Call (.Name "set" p2) [a] [] pos2] X.env = (false, eval (.Call (.Name "set" p2) [a] [] pos2) X.env) :: starEach [] X.env := by rfl) (hpl2 : (backTo pos (starEach [] X.env)).any (·.1) = false := by rfl) :
    EvN X (.Call (.Name "sorted" p) [.Call (.Name "set" p2) [a] [] pos2] [] pos) σ F M iR (uset xs) :=
  fun F1 H1 s w Q q => we_of (pe_callB (cr_sortedSetN hc) hg hm (by decide +kernel) (pa_cons (pe_callTy (cr_setL hc) hg2 hm2 (by decide +kernel) (pa_cons (pe_w a) pa_nil he) (he := he) (hpl := hpl)) pa_nil he2) (he := he2) (hpl := hpl2)) (ha F1 H1 s w _ fun F2 H2 v s2 w2 ⟨l, vs, e, hl, h2⟩ =>
    ⟨l, xs, by rw [e], by rw [← iR_map h2]; exact w2.sq hl, hz, fun p' c' hp' => ⟨p', _, c', rfl, upd_same, fun ns p1 hpw hmem hn => by
      have e : ns = uset xs := lt_uniq hpw (pw_uset xs) fun k => by rw [hmem k, mem_uset]; simp
      rw [e]
      have w3 : Own F2 M (upd H2 p' (SetO X.w p' (fun j => decide (j ∈ xs)) c')) := (w2.more hp')
      exact q F2 _ p1 _ s2 (w3.more hn) (w3.noF hn) (w3.noM hn) upd_same (A2.mapI V.int _)⟩⟩)
end
end Y

/-! ### dicts -/
namespace Y
open PySem PySem.Spec PyProof.Rows L2
/-- things as keys of a dict: ints, texts -/
class KeyT (κ : Type) where
  k : κ → Key
  inj : ∀ x y, k x = k y → x = y
  rk : V → κ → Prop
  v : ∀ {v : V} {x : κ}, rk v x → v = kV (k x)
abbrev KeyT.rep {κ : Type} [t : KeyT κ] : Rep κ := fun _ v x => t.rk v x
instance : KeyT Int := ⟨.inl, fun _ _ h => Sum.inl.inj h, fun v x => v = .int x, fun h => h⟩
instance : KeyT Str := ⟨.inr, fun _ _ h => Sum.inr.inj h, fun v x => v = .str x ∧ PyData.canLay0 (.str x) = true, fun h => h.1⟩
instance {κ : Type} [t : KeyT κ] : Mono (KeyT.rep (κ := κ)) := ⟨fun _ h => h⟩
section
variable {κ α : Type} [DecidableEq κ]
/-- what a dict's pairs hold at a key; with a key stored; without a key -/
def lk (k : κ) : List (κ × α) → Option α
  | [] => none
  | p :: t => if p.1 = k then some p.2 else lk k t
def pt (k : κ) (x : α) : List (κ × α) → List (κ × α)
  | [] => [(k, x)]
  | p :: t => if p.1 = k then (p.1, x) :: t else p :: pt k x t
theorem lk_none {k : κ} : ∀ {kvs : List (κ × α)}, lk k kvs = none ↔ k ∉ kvs.map (·.1)
  | [] => by simp [lk]
  | p :: t => by
    unfold lk
    by_cases h : p.1 = k
    · simp [h]
    · rw [if_neg h, lk_none, List.map_cons, List.mem_cons]
      constructor
      · rintro z (e | e)
        · exact h e.symm
        · exact z e
      · exact fun z e => z (.inr e)
theorem lk_some {k : κ} {x : α} : ∀ {kvs : List (κ × α)}, lk k kvs = some x → (k, x) ∈ kvs
  | [], h => by cases h
  | p :: t, h => by
    unfold lk at h
    by_cases q : p.1 = k
    · rw [if_pos q] at h; cases h; subst q; exact List.mem_cons_self
    · rw [if_neg q] at h; exact List.mem_cons_of_mem _ (lk_some h)
theorem lk_mem {k : κ} {x : α} : ∀ {kvs : List (κ × α)}, (kvs.map (·.1)).Nodup → ((k, x) ∈ kvs ↔ lk k kvs = some x)
  | [], _ => by simp [lk]
  | p :: t, h => by
    rw [List.map_cons, List.nodup_cons] at h
    unfold lk
    by_cases q : p.1 = k
    · rw [if_pos q, List.mem_cons]
      constructor
      · rintro (e | e)
        · rw [← e]
        · exact absurd (List.mem_map.mpr ⟨_, e, rfl⟩) (q ▸ h.1)
      · intro e
        cases e
        subst q
        exact .inl rfl
    · rw [if_neg q, List.mem_cons, ← lk_mem h.2]
      constructor
      · rintro (e | e)
        · exact absurd (by rw [← e]) q
        · exact e
      · exact .inr
theorem lk_pt (k j : κ) (x : α) : ∀ kvs : List (κ × α), lk j (pt k x kvs) = if k = j then some x else lk j kvs
  | [] => by simp [pt, lk]
  | p :: t => by
    unfold pt
    by_cases h : p.1 = k
    · rw [if_pos h]
      unfold lk
      rw [h]
      by_cases q : k = j <;> simp [q]
    · rw [if_neg h]
      unfold lk
      rw [lk_pt k j x t]
      by_cases q : p.1 = j
      · have : ¬ k = j := fun z => h (q.trans z.symm)
        simp [q, this]
      · simp [q]
theorem pt_len (k : κ) (x : α) : ∀ kvs : List (κ × α), (pt k x kvs).length ≤ kvs.length + 1
  | [] => by simp [pt]
  | p :: t => by
    unfold pt
    split
    · simp
    · have := pt_len k x t; simp; omega
theorem pt_keys (k j : κ) (x : α) : ∀ kvs : List (κ × α), j ∈ (pt k x kvs).map (·.1) ↔ j = k ∨ j ∈ kvs.map (·.1)
  | [] => by simp [pt]
  | p :: t => by
    unfold pt
    by_cases h : p.1 = k
    · rw [if_pos h]; simp only [List.map_cons, List.mem_cons, h]
      constructor
      · exact .inr
      · rintro (e | e)
        · exact .inl e
        · exact e
    · rw [if_neg h]
      simp only [List.map_cons, List.mem_cons, pt_keys k j x t]
      constructor
      · rintro (e | e | e)
        · exact .inr (.inl e)
        · exact .inl e
        · exact .inr (.inr e)
      · rintro (e | e | e)
        · exact .inr (.inl e)
        · exact .inl e
        · exact .inr (.inr e)
theorem pt_nodup (k : κ) (x : α) : ∀ {kvs : List (κ × α)}, (kvs.map (·.1)).Nodup → ((pt k x kvs).map (·.1)).Nodup
  | [], _ => by simp [pt]
  | p :: t, h => by
    rw [List.map_cons, List.nodup_cons] at h
    unfold pt
    by_cases q : p.1 = k
    · rw [if_pos q, List.map_cons, List.nodup_cons]; exact h
    · rw [if_neg q, List.map_cons, List.nodup_cons, pt_keys]
      exact ⟨fun z => z.elim q h.1, pt_nodup k x h.2⟩
end
/-- pairs of a dict as they stand for typed ones -/
def DK {κ α : Type} [KeyT κ] (r : Rep α) (F : Hp) (ks : List (Key × V)) (kvs : List (κ × α)) : Prop := A2 (fun p q => p.1 = KeyT.k q.1 ∧ r F p.2 q.2 ∧ KeyT.rk (kV p.1) q.1) ks kvs ∧ (kvs.map (·.1)).Nodup
section
variable {κ α : Type} [DecidableEq κ] [t : KeyT κ] {r : Rep α} {F : Hp}
theorem DK.sub [m : Mono r] {F' : Hp} (e : Sub F F') {ks : List (Key × V)} {kvs : List (κ × α)} (h : DK r F ks kvs) : DK r F' ks kvs := ⟨h.1.imp fun _ _ q => ⟨q.1, m.sub e q.2.1, q.2.2⟩, h.2⟩
theorem DK.up [m : Mono r] {F' : Hp} (e : Same F F') {ks : List (Key × V)} {kvs : List (κ × α)} (h : DK r F ks kvs) : DK r F' ks kvs := h.sub (Same.sub e)
theorem DK.nil : DK r F [] ([] : List (κ × α)) := ⟨.nil, .nil⟩
theorem DK.len {ks : List (Key × V)} {kvs : List (κ × α)} (h : DK r F ks kvs) : ks.length = kvs.length := h.1.len
theorem DK.look {ks : List (Key × V)} {kvs : List (κ × α)} (h : DK r F ks kvs) (x : κ) : match lk x kvs with
    | none => valV ks (t.k x) = none
    | some y => ∃ v, valV ks (t.k x) = some v ∧ r F v y := by
  obtain ⟨h, nd⟩ := h
  clear nd
  induction h with
  | nil => exact rfl
  | @cons p p' _ _ q _ ih =>
    unfold lk
    by_cases e : p'.1 = x
    · rw [if_pos e]
      exact ⟨_, valV_pos (by rw [q.1, e]), q.2.1⟩
    · rw [if_neg e, valV_neg (fun z => e (t.inj _ _ (q.1.symm.trans z)))]
      exact ih
theorem DK.has {ks : List (Key × V)} {kvs : List (κ × α)} (h : DK r F ks kvs) (x : κ) : (valV ks (t.k x)).isSome = (lk x kvs).isSome := by
  have := h.look x
  cases q : lk x kvs with
  | none => rw [q] at this; rw [this]; rfl
  | some y => rw [q] at this; obtain ⟨v, e, _⟩ := this; rw [e]; rfl
theorem putK_cons {p : Key × V} {ks : List (Key × V)} {k : Key} {v : V} (h : ∀ q ∈ ks, q.1 ≠ p.1) : putK (p :: ks) k v = if p.1 = k then (p.1, v) :: ks else p :: putK ks k v := by
  unfold putK
  by_cases e : p.1 = k
  · rw [if_pos e, List.any_cons, decide_eq_true e, Bool.true_or, if_pos rfl, List.map_cons, if_pos e]
    congr 1
    refine (List.map_congr_left fun q hq => ?_).trans (List.map_id _)
    rw [if_neg (fun z => h q hq (z.trans e.symm))]; rfl
  · rw [if_neg e, List.any_cons, decide_eq_false e, Bool.false_or]
    split
    · rw [List.map_cons, if_neg e]
    · rw [List.cons_append]
theorem DK.put {ks : List (Key × V)} {kvs : List (κ × α)} {x : κ} {y : α} {v : V} (h : DK r F ks kvs) (hr : r F v y) (hk : t.rk (kV (t.k x)) x) : DK r F (putK ks (t.k x) v) (pt x y kvs) := by
  refine ⟨?_, pt_nodup x y h.2⟩
  obtain ⟨h, nd⟩ := h
  induction h with
  | nil => exact .cons ⟨rfl, hr, hk⟩ .nil
  | @cons p p' _ _ q tl ih =>
    rw [List.map_cons, List.nodup_cons] at nd
    rw [putK_cons (fun q2 h2 z => by
      obtain ⟨i, hi⟩ := List.getElem?_of_mem h2
      obtain ⟨b, hb, hk⟩ := tl.getL hi
      have : b.1 = p'.1 := t.inj _ _ (hk.1.symm.trans (z.trans q.1))
      exact nd.1 (List.mem_map.mpr ⟨b, List.mem_of_getElem? hb, this⟩))]
    unfold pt
    by_cases e : p'.1 = x
    · rw [if_pos e, if_pos (by rw [q.1, e])]
      exact .cons ⟨q.1, hr, q.2.2⟩ tl
    · rw [if_neg e, if_neg (fun z => e (t.inj _ _ (q.1.symm.trans z)))]
      exact .cons q (ih nd.2)
end
/-- a dict that stands for good -/
def dR {κ α : Type} [KeyT κ] (r : Rep α) : Rep (List (κ × α)) := fun F v kvs => ∃ a o ks, v = .ref a ∧ F a = some o ∧ DictO o (.dK ks) ∧ DK r F ks kvs
instance {κ α : Type} [KeyT κ] {r : Rep α} [m : Mono r] : Mono (dR (κ := κ) r) := ⟨fun e ⟨a, o, ks, h1, h2, h3, h4⟩ =>
  let ⟨o', h5, h6⟩ := e.dic h2 h3; ⟨a, o', ks, h1, h5, h6, ⟨h4.1.imp fun _ _ q => ⟨q.1, m.sub e q.2.1, q.2.2⟩, h4.2⟩⟩⟩
/-- a dict to be read: for good or one's own -/
def rdD (M : Hp) {κ α : Type} [KeyT κ] (r : Rep α) : Rep (List (κ × α)) := fun F v kvs => ∃ a ks, v = .ref a ∧ ((∃ o, F a = some o ∧ DictO o (.dK ks)) ∨ M a = some (.dK ks)) ∧ DK r F ks kvs
instance {M : Hp} {κ α : Type} [KeyT κ] {r : Rep α} [m : Mono r] : Mono (rdD M (κ := κ) r) := ⟨fun e ⟨a, ks, h1, h2, h4⟩ =>
  ⟨a, ks, h1, h2.imp (fun ⟨o, h2, h3⟩ => let ⟨o', h5, h6⟩ := e.dic h2 h3; ⟨o', h5, h6⟩) id, ⟨h4.1.imp fun _ _ q => ⟨q.1, m.sub e q.2.1, q.2.2⟩, h4.2⟩⟩⟩
theorem DictO.rd {H : Hp} {a : Addr} {o : HO} {ks : List (Key × V)} (h : H a = some o) (d : DictO o (.dK ks)) : Rd H a (.dK ks) := by
  cases d with
  | k => exact .inl h
  | kf ob => exact .inr ⟨ob, h⟩
theorem rdD.rd [Lams] {M F H : Hp} {a : Addr} {ks : List (Key × V)} (w : Own F M H) (h : (∃ o, F a = some o ∧ DictO o (.dK ks)) ∨ M a = some (.dK ks)) : Rd H a (.dK ks) := by
  rcases h with ⟨o, h, d⟩ | h
  · exact DictO.rd (w.f _ _ h) d
  · exact .inl (w.m _ _ h)
section
variable [Lams] {X : Cx} {σ : L2.St} {F M H : Hp} {a b c e : Expr} {pos p p2 : Pos} {κ α β : Type} [DecidableEq κ] [t : KeyT κ] {r : Rep α} {n : Str} {rest : List Stmt} {D : Ends}
theorem Ev.dd {kvs : List (κ × α)} (h : EvF X e σ F M (dR r) kvs) : EvF X e σ F M (rdD M r) kvs := h.imp fun _ _ ⟨a, o, ks, h1, h2, h3, h4⟩ => ⟨a, ks, h1, .inl ⟨o, h2, h3⟩, h4⟩
theorem ev_varD (i : Nat) {kvs : List (κ × α)} {l : Addr} {ks : List (Key × V)} {n : Str} [m : Mono r] (hs : σ[i]? = some (some (.ref l))) (hM : M l = some (.dK ks)) (hr : DK r F ks kvs) (hN : X.N[i]? = some n := by rfl)
    (hv : Vis X.env.scope n := by first | exact Or.inl rfl | exact Or.inr (Or.inl rfl) | exact Or.inr (Or.inr rfl)) (hd : (n == ("__debug__" : Str)) = false := by decide) (hcd : (n == ("__classdict__" : Str)) = false := by decide) :
    EvF X (.Name n pos) σ F M (rdD M r) kvs := fun F1 H1 s w Q q => we_of (pe_var hN hv hd hcd) ⟨_, hs, q F1 H1 _ (Same.refl _) w ⟨l, ks, rfl, .inr hM, hr.up s⟩⟩
theorem bx_inD {x : κ} {kvs : List (κ × α)} (hu : X.A.units + 64 < cLine) (ha : EvF X a σ F M t.rep x) (hb : EvF X b σ F M (rdD M r) kvs) (hm : behindInMarks .In b = false := by rfl) : Bx X (.Compare a [.In] [b] pos) σ F M (lk x kvs).isSome :=
  bx_c (fun F1 H1 s w Q q => wc_of (pc_din (by omega) (pe_w a) (pe_w b)) (ha F1 H1 s w _ fun F2 H2 v s2 w2 hv => hb F2 H2 (s.trans s2) w2 _ fun F3 H3 u s3 w3 ⟨l, ks, e, hl, hk⟩ => by
    refine ⟨l, valV ks (t.k x), e, ?_, ?_⟩
    · rw [t.v hv]
      exact .inl ⟨ks, _, rdD.rd w3 hl, rfl, rfl⟩
    · rw [hk.has x]; exact q F3 H3 (s2.trans s3) w3)) hm
theorem bx_niD {x : κ} {kvs : List (κ × α)} (hu : X.A.units + 64 < cLine) (ha : EvF X a σ F M t.rep x) (hb : EvF X b σ F M (rdD M r) kvs) (hm : behindInMarks .NotIn b = false := by rfl) : Bx X (.Compare a [.NotIn] [b] pos) σ F M (!(lk x kvs).isSome) :=
  bx_c (fun F1 H1 s w Q q => wc_of (pc_dnotin (by omega) (pe_w a) (pe_w b)) (ha F1 H1 s w _ fun F2 H2 v s2 w2 hv => hb F2 H2 (s.trans s2) w2 _ fun F3 H3 u s3 w3 ⟨l, ks, e, hl, hk⟩ => by
    refine ⟨l, valV ks (t.k x), e, ?_, ?_⟩
    · rw [t.v hv]
      exact .inl ⟨ks, _, rdD.rd w3 hl, rfl, rfl⟩
    · rw [hk.has x]; exact q F3 H3 (s2.trans s3) w3)) hm
/-- d[x] -/
theorem ev_dget {x : κ} {y : α} {kvs : List (κ × α)} [m : Mono r] (hu : X.A.units + 64 < cLine) (ha : EvF X a σ F M (rdD M r) kvs) (hb : EvF X b σ F M t.rep x) (h : lk x kvs = some y) (hs : NoSl b := by exact fun _ _ => rfl) : EvF X (.Subscript a b pos) σ F M r y :=
  fun F1 H1 s w Q q => we_of (pe_dget (by omega) (pe_w a) (pe_w b) hs) (ha F1 H1 s w _ fun F2 H2 v s2 w2 ⟨l, ks, e, hl, hk⟩ => hb F2 H2 (s.trans s2) w2 _ fun F3 H3 u s3 w3 hu => by
    have := (hk.up s3).look x
    rw [h] at this
    obtain ⟨z, hz, hr⟩ := this
    refine ⟨l, z, e, ?_, q F3 H3 z (s2.trans s3) w3 hr⟩
    rw [t.v hu, ← hz]
    exact .inl ⟨ks, _, rdD.rd w3 (hl.imp (fun ⟨o, h1, h2⟩ => ⟨o, s3 _ _ h1, h2⟩) id), rfl, rfl⟩)
/-- d.get(x, z) -/
theorem ev_dget2 {f : Expr} {x : κ} {z : α} {kvs : List (κ × α)} {apos : Pos} [m : Mono r] (hu : X.A.units + 64 < cLine) (ha : EvF X a σ F M (rdD M r) kvs) (hb : EvF X b σ F M t.rep x) (hc : EvF X f σ F M r z) (hm : M2 X a "get" apos b f pos := by exact ⟨rfl, rfl, rfl, rfl⟩) :
    EvF X (.Call (.Attribute a "get" apos) [b, f] [] pos) σ F M r ((lk x kvs).getD z) :=
  fun F1 H1 s w Q q => we_of (pe_dget2 (by omega) (pe_w a) (pe_w b) (pe_w f) hm) (ha F1 H1 s w _ fun F2 H2 v s2 w2 ⟨l, ks, e, hl, hk⟩ => ⟨l, e, .inl ⟨ks, rdD.rd w2 hl⟩, hb F2 H2 (s.trans s2) w2 _ fun F3 H3 u s3 w3 hu => hc F3 H3 ((s.trans s2).trans s3) w3 _ fun F4 H4 u2 s4 w4 hz => by
    refine ⟨valV ks (t.k x), ?_, ?_⟩
    · rw [t.v hu]
      exact .inl ⟨ks, _, rdD.rd w4 (hl.imp (fun ⟨o, h1, h2⟩ => ⟨o, s4 _ _ (s3 _ _ h1), h2⟩) id), rfl, rfl⟩
    · have := (hk.up (s3.trans s4)).look x
      cases h : lk x kvs with
      | none => rw [h] at this; rw [this]; exact q F4 H4 _ ((s2.trans s3).trans s4) w4 (by rw [h]; exact hz)
      | some y => rw [h] at this; obtain ⟨z', e1, hr⟩ := this; rw [e1]; exact q F4 H4 _ ((s2.trans s3).trans s4) w4 (by rw [h]; exact hr)⟩)
/-- d.get(x) -/
theorem ev_dget1 {x : κ} {kvs : List (κ × α)} {apos : Pos} [m : Mono r] (hu : X.A.units + 64 < cLine) (ha : EvF X a σ F M (rdD M r) kvs) (hb : EvF X b σ F M t.rep x) (hm : M1 X a "get" apos b pos := by exact ⟨rfl, rfl, rfl, rfl⟩) :
    EvF X (.Call (.Attribute a "get" apos) [b] [] pos) σ F M (oR r) (lk x kvs) :=
  fun F1 H1 s w Q q => we_of (pe_dget1 (by omega) (pe_w a) (pe_w b) hm) (ha F1 H1 s w _ fun F2 H2 v s2 w2 ⟨l, ks, e, hl, hk⟩ => ⟨l, e, .inl ⟨ks, rdD.rd w2 hl⟩, hb F2 H2 (s.trans s2) w2 _ fun F3 H3 u s3 w3 hu => by
    refine ⟨valV ks (t.k x), ?_, ?_⟩
    · rw [t.v hu]
      exact .inl ⟨ks, _, rdD.rd w3 (hl.imp (fun ⟨o, h1, h2⟩ => ⟨o, s3 _ _ h1, h2⟩) id), rfl, rfl⟩
    · have := (hk.up s3).look x
      refine q F3 H3 _ (s2.trans s3) w3 ?_
      cases h : lk x kvs with
      | none => rw [h] at this; rw [this]; exact rfl
      | some y => rw [h] at this; obtain ⟨z', e1, hr⟩ := this; rw [e1]; exact hr⟩)
/-- x = {} -/
theorem ss_setD (i : Nat) (w : Own F M H) (k : ∀ H2 l, M l = none → Own F (upd M l (.dK [])) H2 → WSs X rest D (σ.set i (some (.ref l))) H2)
    (hN : X.N.Nodup) (hi : X.N[i]? = some n := by rfl) (hx : Loc X.env.scope n := by first | exact Or.inl rfl | exact Or.inr rfl) (hs : swapsWith (.Dict [] [] p2) (some (.Name n p)) pos.line X.env = pure false := by rfl) (hf : X.fn n = true ∨ X.env.scope.names.lookup n = some .local := by first | exact .inl rfl | exact .inr rfl) :
    WSs X (.Assign [.Name n p] (.Dict [] [] p2) pos :: rest) D σ H :=
  wss_cons (ws_of (ps_set hN hi hx pe_dnewK hs hf) fun l hl => k _ l (w.noM hl) (w.newM hl))
/-- d[x] = e, d a dict of one's own -/
theorem ss_dput {ix : Expr} {l : Addr} {ks : List (Key × V)} {kvs : List (κ × α)} {x : κ} {y : α} (i : Nat) {q1 q2 : Pos} [m : Mono r] (hu : X.A.units + 64 < cLine) (hs : σ[i]? = some (some (.ref l))) (hM : M l = some (.dK ks)) (hA : DK r F ks kvs) (he : EvF X e σ F M r y) (hix : EvF X ix σ F M t.rep x) (w : Own F M H) (hl : kvs.length < 1000000)
    (kk : ∀ F2 M2 H2 ks', Same F F2 → M2 = upd M l (.dK ks') → Own F2 M2 H2 → DK r F2 ks' (pt x y kvs) → WSs X rest D σ H2) (hN : X.N[i]? = some n := by rfl)
    (hv : Vis X.env.scope n := by first | exact Or.inl rfl | exact Or.inr (Or.inl rfl) | exact Or.inr (Or.inr rfl)) (hd : (n == ("__debug__" : Str)) = false := by decide) (hcd : (n == ("__classdict__" : Str)) = false := by decide)
    (hsw : swapsWith e (some (.Subscript (.Name n q1) ix q2)) pos.line X.env = pure false := by rfl) :
    WSs X (.Assign [.Subscript (.Name n q1) ix q2] e pos :: rest) D σ H :=
  wss_cons (ws_of (ps_dput (by omega) (pe_var hN hv hd hcd) (pe_w ix) (pe_w e) hsw) (he F H (Same.refl _) w _ fun F2 H2 v s2 w2 hv => ⟨_, hs, hix F2 H2 s2 w2 _ fun F3 H3 u s3 w3 hu => by
    have hz : ks.length < sizeLine := Nat.lt_of_lt_of_le (show ks.length < 1000000 by rw [hA.len]; exact hl) (by decide)
    refine ⟨l, _, rfl, ?_, kk F3 _ _ _ (s2.trans s3) rfl (w3.put hM) ((hA.up (s2.trans s3)).put (Mono.mono s3 hv) (t.v hu ▸ hu))⟩
    rw [t.v hu]
    exact DPut.k (w3.m _ _ hM) hz⟩))
/-! walks over a dict that stands for good -/
theorem yields_keys {d : Addr} {o : Obj} {ks : List (Key × V)} {kvs : List (κ × α)} (hF : F d = some (.frz o (.dK ks))) (h : DK r F ks kvs) : Yields F (Itk d o ks) t.rep (kvs.map (·.1)) := fun i F3 M3 H3 s3 w3 =>
  ⟨fun hi => ⟨w3.f _ _ (s3 _ _ hF), by rw [h.len]; simpa using hi⟩, fun x hx => by
    rw [List.getElem?_map] at hx
    cases e : kvs[i]? with
    | none => rw [e] at hx; cases hx
    | some q =>
      rw [e] at hx
      cases hx
      obtain ⟨p, hp, hk⟩ := h.1.get e
      refine ⟨⟨w3.f _ _ (s3 _ _ hF), (List.getElem?_eq_some_iff.mp hp).1⟩, fun v H' hy => ?_⟩
      obtain ⟨rfl, k, v', h1, rfl⟩ := hy
      rw [hp] at h1
      cases h1
      exact ⟨F3, Same.refl _, w3, hk.2.2⟩⟩
theorem yields_items [m : Mono r] {d : Addr} {o : Obj} {ks : List (Key × V)} {kvs : List (κ × α)} (hF : F d = some (.frz o (.dK ks))) (h : DK r F ks kvs) : Yields F (Iti d o ks) (t2R t.rep r) kvs := fun i F3 M3 H3 s3 w3 =>
  ⟨fun hi => ⟨w3.f _ _ (s3 _ _ hF), by rw [h.len]; exact hi⟩, fun x hx => by
    obtain ⟨p, hp, hk⟩ := h.1.get hx
    refine ⟨⟨w3.f _ _ (s3 _ _ hF), (List.getElem?_eq_some_iff.mp hp).1⟩, fun v H' hy => ?_⟩
    obtain ⟨T, k, v', h1, rfl, hT, rfl⟩ := hy
    rw [hp] at h1
    cases h1
    exact ⟨_, same_new (w3.noF hT), w3.newF hT, T, _, _, rfl, upd_same, hk.2.2, Mono.mono (s3.trans (same_new (w3.noF hT))) hk.2.1⟩⟩
omit [Lams] in
theorem sub_lock {d : Addr} {o : Obj} {ks : List (Key × V)} (h : F d = some (.dK ks)) : Sub F (upd F d (.frz o (.dK ks))) := fun a u e => by
  by_cases q : a = d
  · subst q; rw [h] at e; cases e; exact .inr ⟨_, _, .k _, upd_same, .kf _ _⟩
  · exact .inl (by rw [upd_ne q]; exact e)
omit [Lams] in
theorem sub_unlock {d : Addr} {o : Obj} {ks : List (Key × V)} (h : F d = some (.frz o (.dK ks))) : Sub F (upd F d (.dK ks)) := fun a u e => by
  by_cases q : a = d
  · subst q; rw [h] at e; cases e; exact .inr ⟨_, _, .kf _ _, upd_same, .k _⟩
  · exact .inl (by rw [upd_ne q]; exact e)
theorem Own.reF {d : Addr} {o u : HO} (w : Own F M H) (h : F d = some o) (hm : mine o = true := by rfl) (hu : ntb u = true := by rfl) : Own (upd F d u) M (upd H d u) :=
  have hM : M d = none := by
    cases q : M d with
    | none => rfl
    | some x => have := w.d d x q; rw [h] at this; cases this
  ⟨same_upd w.f, same_in w.m hM, fun a x e => by
    have ne : a ≠ d := fun q => by subst q; rw [hM] at e; cases e
    rw [upd_ne ne]; exact w.d a x e, w.t, tab_put (w.f _ _ h) hm w.b, ntb_upd w.u hu⟩
omit [Lams] in
theorem same_reF {F' : Hp} {d : Addr} {o u : HO} (h : F d = some o) (s : Same (upd F d u) F') : Same F (upd F' d o) := fun a x e => by
  by_cases q : a = d
  · subst q; rw [h] at e; cases e; exact upd_same
  · rw [upd_ne q]; exact s a x (by rw [upd_ne q]; exact e)
/-- .. in a comprehension: it the walked thing (the dict in slot j, or its items()), J its turns -/
theorem en_lcD_core {elt tg iter : Expr} {ifs : List Expr} {scope : Scope} (own : List (Str × Nat)) {g : TG} {v : V} {kvs : List (κ × α)} {δ γ : Type} {s : Rep β} {r2 : Rep γ} {xs : List γ} [ms : Mono s] [mr : Mono r] (pr : γ → Bool) (f : γ → β)
    (hd : dR r F v kvs)
    (hi : ∀ F1, Sub F F1 → ∀ d o ks, v = .ref d → F1 d = some (.frz o (.dK ks)) → DK r F1 ks kvs → EvI X tg iter σ F1 M r2 xs)
    (hg : ∀ (s : Shared) (H : Hp) (C : Addr) (cl : List (Str × Addr)) (fp : List Addr), PG (X.blk s H scope (compEnvC scope cl C X.env) fp) tg g)
    (ht : ∀ x v F1 M1 H1, x ∈ xs → Sub F F1 → Same M M1 → Own F1 M1 H1 → r2 F1 v x → ∀ R : L2.St → Hp → Prop, (∀ σ2, wipe σ2 (own.map (·.2)) = wipe σ (own.map (·.2)) → (∀ Y, Blk X scope Y → EvTs Y ifs σ2 F1 M1 (pr x)) → (pr x = true → ∀ Y, Blk X scope Y → EvF Y elt σ2 F1 M1 s (f x)) → R σ2 H1) → g v (wipe σ (own.map (·.2))) H1 R)
    (hl : xs.length < 1000000) (hN : X.N.Nodup) (ok : BlkOk X.N X.env.scope scope own) (hc : X.calm = true := by rfl) (hs : ∀ x, foldedSetIterable iter X.env x = pure x := by intro _; rfl) :
    EvN X (.ListComp elt [⟨tg, iter, ifs, 0⟩] scope pos) σ F M s ((xs.filter pr).map f) := by
  intro F1 H1 s1 w1 Q q
  obtain ⟨d, o, ks, rfl, h1, h2, h3⟩ := hd
  have h1' := s1 _ _ h1
  have pl : PE X (.ListComp elt [⟨tg, iter, ifs, 0⟩] scope pos) _ := pe_lc (g := g) (tt := wTs X scope ifs) (te := wE X scope elt) hc hN (pi_w tg iter) ok hg (fun s' H' C cl fp => ⟨fun pins s2 σ2 H2 Q2 I h => h _ ⟨s', H', C, cl, fp, rfl⟩ pins s2 I⟩) (fun s' H' C cl fp => ⟨fun pins s2 σ2 H2 Q2 I h => h _ ⟨s', H', C, cl, fp, rfl⟩ pins s2 I⟩) hs
  cases h2 with
  | kf ob => exact we_of pl (lc_run (Sub.refl F) own pr f (hi F (Sub.refl F) d ob ks rfl h1 h3) ht hl s1 w1 q)
  | k =>
    refine we_of (pe_lock pl) ⟨d, _, w1.f _ _ h1', trivial, fun ob => ?_⟩
    have wl : Own (upd F1 d (.frz ob (.dK ks))) M (upd H1 d (.frz ob (.dK ks))) := w1.reF h1'
    have sb : Sub F (upd F1 d (.frz ob (.dK ks))) := (Same.sub s1).trans (sub_lock h1')
    refine lc_run sb own pr f (hi _ sb d ob ks rfl upd_same (h3.sub sb)) ht hl (Same.refl _) wl fun F2 H2 l vs s2 w2 n1 n2 hh hA => ?_
    have hF2 : F2 d = some (.frz ob (.dK ks)) := s2 _ _ upd_same
    have ne : l ≠ d := fun z => by subst z; rw [hF2] at n1; cases n1
    refine ⟨w2.f _ _ hF2, q (upd F2 d (.dK ks)) _ l vs (same_reF h1' s2) (w2.reF hF2) (by rw [upd_ne ne]; exact n1) n2 (by rw [upd_ne ne]; exact hh) (hA.sub (sub_unlock hF2))⟩
/-- [.. for x in d ..]: d in slot j, x in slot i -/
theorem en_lcDk (i j : Nat) {elt : Expr} {ifs : List Expr} {scope : Scope} {dn : Str} {v : V} {kvs : List (κ × α)} {s : Rep β} [ms : Mono s] [mr : Mono r] (pr : κ → Bool) (f : κ → β) (hσ : σ[j]? = some (some v)) (hd : dR r F v kvs)
    (ht : ∀ x u F1 M1, x ∈ kvs.map (·.1) → Sub F F1 → Same M M1 → t.rep F1 u x → ∀ Y, Blk X scope Y → EvTs Y ifs (((wipe σ [i])).set i (some u)) F1 M1 (pr x) ∧ (pr x = true → EvF Y elt ((wipe σ [i]).set i (some u)) F1 M1 s (f x)))
    (hl : kvs.length < 1000000) (hN : X.N.Nodup) (hb : blkC X.N X.env.scope scope [(n, i)] = true := by decide +kernel) (hc : X.calm = true := by rfl)
    (hg : ∀ (s : Shared) (H : Hp) (C : Addr) (cl : List (Str × Addr)) (fp : List Addr), PG (X.blk s H scope (compEnvC scope cl C X.env) fp) (.Name n p) (gName i) := by exact fun _ _ _ _ _ => pg_name (by assumption) rfl (Or.inl rfl))
    (hs : ∀ x, foldedSetIterable (.Name dn p2) X.env x = pure x := by intro _; rfl) (hNj : X.N[j]? = some dn := by rfl)
    (hv : Vis X.env.scope dn := by first | exact Or.inl rfl | exact Or.inr (Or.inl rfl) | exact Or.inr (Or.inr rfl)) (hdb : (dn == ("__debug__" : Str)) = false := by decide) (hcd : (dn == ("__classdict__" : Str)) = false := by decide) :
    EvN X (.ListComp elt [⟨.Name n p, .Name dn p2, ifs, 0⟩] scope pos) σ F M s (((kvs.map (·.1)).filter pr).map f) :=
  en_lcD_core (δ := Nat) [(n, i)] (g := gName i) pr f hd (fun F1 sb d o ks ev hF hk F2 H2 s2 w2 R q => by
      subst ev
      exact wi_of (pi_keys (pe_var hNj hv hdb hcd)) ⟨_, hσ, d, o, rfl, .inl ⟨ks, w2.f _ _ (s2 _ _ hF), q F2 H2 _ (Same.refl _) w2 (yields_keys (s2 _ _ hF) (hk.up s2))⟩⟩) hg
    (fun x u F1 M1 H1 hx s1 s2 w hr R k => k _ (by
      show (List.set (List.set (List.set σ i none) i (some u)) i none) = List.set σ i none
      rw [List.set_set, List.set_set]) (fun Y hY => (ht x u F1 M1 hx s1 s2 hr Y hY).1) (fun hp Y hY => (ht x u F1 M1 hx s1 s2 hr Y hY).2 hp)) (by simpa using hl) hN (blkOk_by hb) hc hs
end
end Y

/-! ### max, min of a list, with and without default=; sum; enumerate; zip; xs[::-1] -/
namespace Y
open PySem PySem.Spec PyProof.Rows L2
def mxD (d : Int) : List Int → Int
  | [] => d
  | x :: t => t.foldl max x
def mnD (d : Int) : List Int → Int
  | [] => d
  | x :: t => t.foldl min x
theorem foldl_max_ge (t : List Int) (x : Int) : x ≤ t.foldl max x ∧ (∀ y ∈ t, y ≤ t.foldl max x) ∧ (t.foldl max x = x ∨ t.foldl max x ∈ t) := by
  induction t generalizing x with
  | nil => exact ⟨Int.le_refl _, fun _ h => by simp at h, .inl rfl⟩
  | cons y t ih =>
    rw [List.foldl_cons]
    obtain ⟨h1, h2, h3⟩ := ih (max x y)
    refine ⟨by omega, fun z hz => ?_, ?_⟩
    · rcases List.mem_cons.mp hz with rfl | hz
      · omega
      · exact h2 z hz
    · rcases h3 with h3 | h3
      · rw [h3]
        rcases Int.le_total x y with q | q
        · rw [Int.max_eq_right q]; exact .inr (by simp)
        · rw [Int.max_eq_left q]; exact .inl rfl
      · exact .inr (List.mem_cons_of_mem _ h3)
theorem foldl_min_le (t : List Int) (x : Int) : t.foldl min x ≤ x ∧ (∀ y ∈ t, t.foldl min x ≤ y) ∧ (t.foldl min x = x ∨ t.foldl min x ∈ t) := by
  induction t generalizing x with
  | nil => exact ⟨Int.le_refl _, fun _ h => by simp at h, .inl rfl⟩
  | cons y t ih =>
    rw [List.foldl_cons]
    obtain ⟨h1, h2, h3⟩ := ih (min x y)
    refine ⟨by omega, fun z hz => ?_, ?_⟩
    · rcases List.mem_cons.mp hz with rfl | hz
      · omega
      · exact h2 z hz
    · rcases h3 with h3 | h3
      · rw [h3]
        rcases Int.le_total x y with q | q
        · rw [Int.min_eq_left q]; exact .inl rfl
        · rw [Int.min_eq_right q]; exact .inr (by simp)
      · exact .inr (List.mem_cons_of_mem _ h3)
theorem mxD_ge {d : Int} {xs : List Int} {y : Int} (h : y ∈ xs) : y ≤ mxD d xs := by
  cases xs with
  | nil => simp at h
  | cons x t =>
    obtain ⟨h1, h2, _⟩ := foldl_max_ge t x
    rcases List.mem_cons.mp h with rfl | h
    · exact h1
    · exact h2 y h
theorem mxD_mem {d : Int} {xs : List Int} (h : xs ≠ []) : mxD d xs ∈ xs := by
  cases xs with
  | nil => exact absurd rfl h
  | cons x t =>
    obtain ⟨_, _, h3⟩ := foldl_max_ge t x
    rcases h3 with h3 | h3
    · show t.foldl max x ∈ _
      rw [h3]; simp
    · exact List.mem_cons_of_mem _ h3
theorem mnD_le {d : Int} {xs : List Int} {y : Int} (h : y ∈ xs) : mnD d xs ≤ y := by
  cases xs with
  | nil => simp at h
  | cons x t =>
    obtain ⟨h1, h2, _⟩ := foldl_min_le t x
    rcases List.mem_cons.mp h with rfl | h
    · exact h1
    · exact h2 y h
theorem mnD_mem {d : Int} {xs : List Int} (h : xs ≠ []) : mnD d xs ∈ xs := by
  cases xs with
  | nil => exact absurd rfl h
  | cons x t =>
    obtain ⟨_, _, h3⟩ := foldl_min_le t x
    rcases h3 with h3 | h3
    · show t.foldl min x ∈ _
      rw [h3]; simp
    · exact List.mem_cons_of_mem _ h3
theorem holdAll_ints {h : Heap} : ∀ {vs : List Value} {ns : List Int}, IntsAre vs ns → PySem.W.HoldAll h vs ns
  | _, _, .nil => ⟨_, ReadsAll.nil⟩
  | _, _, .cons n t r => by
    obtain ⟨as, hr⟩ := holdAll_ints (h := h) r
    exact ⟨_, ReadsAll.cons (Reads.int n t) hr⟩
theorem maxOf_int (x : Int) (xs : List Int) : PySem.W.maxOf x xs = xs.foldl max x := by
  unfold PySem.W.maxOf
  congr 1
  funext a y
  show (if decide (a < y) = true then y else a) = max a y
  by_cases h : a < y
  · rw [decide_eq_true h, if_pos rfl, Int.max_eq_right (by omega)]
  · rw [decide_eq_false h, if_neg (by simp), Int.max_eq_left (by omega)]
theorem minOf_int (x : Int) (xs : List Int) : PySem.W.minOf x xs = xs.foldl min x := by
  unfold PySem.W.minOf
  congr 1
  funext a y
  show (if decide (y < a) = true then y else a) = min a y
  by_cases h : y < a
  · rw [decide_eq_true h, if_pos rfl, Int.min_eq_right (by omega)]
  · rw [decide_eq_false h, if_neg (by simp), Int.min_eq_left (by omega)]
def rMaxD (K : PySem.W.Frag) : List V → List V → Hp → VK → Prop := fun vs zs H Q => ∃ (a : Addr) (ns : List Int) (d : Int), vs = [V.ref a] ∧ zs = [.int d] ∧ SqL K H a (ns.map V.int) ∧ Q (.int (mxD d ns)) H
def rMinD (K : PySem.W.Frag) : List V → List V → Hp → VK → Prop := fun vs zs H Q => ∃ (a : Addr) (ns : List Int) (d : Int), vs = [V.ref a] ∧ zs = [.int d] ∧ SqL K H a (ns.map V.int) ∧ Q (.int (mnD d ns)) H
section
variable {X : Cx}
theorem cr_maxDf (hc : X.calm = true) (hu : X.A.units + 64 < cLine) : CallRK X (.builtin "max") [("default" : Str)] (rMaxD X.K) := by
  intro pins s σ H xs zs us ws Q I r rz h
  obtain ⟨a, ns, d, rfl, rfl, hs, q⟩ := h
  obtain ⟨its, rv, hl, _⟩ := I.list hs
  obtain ⟨u, rfl, t, rfl⟩ := vals1 rz
  rw [Vals.ref1 r]
  refine PySem.W.max_list_datum_default (I.ok.hd hc) hl.isList (by simpa using holdAll_ints rv.ints) (by show X.A.units + 1 + 0 < _; omega) (fun e h' tk hk => ?_) fun y ys i v h' tk e hi hr hk => ?_
  · subst e
    exact ⟨.int d, H, I.kept hk, ⟨_, rfl⟩, q⟩
  · subst e
    obtain ⟨as, hr⟩ := hr
    rw [maxOf_int] at hr
    cases hr
    exact ⟨.int _, H, I.kept hk, ⟨_, rfl⟩, q⟩
theorem cr_minDf (hc : X.calm = true) (hu : X.A.units + 64 < cLine) : CallRK X (.builtin "min") [("default" : Str)] (rMinD X.K) := by
  intro pins s σ H xs zs us ws Q I r rz h
  obtain ⟨a, ns, d, rfl, rfl, hs, q⟩ := h
  obtain ⟨its, rv, hl, _⟩ := I.list hs
  obtain ⟨u, rfl, t, rfl⟩ := vals1 rz
  rw [Vals.ref1 r]
  refine PySem.W.min_list_datum_default (I.ok.hd hc) hl.isList (by simpa using holdAll_ints rv.ints) (by show X.A.units + 1 + 0 < _; omega) (fun e h' tk hk => ?_) fun y ys i v h' tk e hi hr hk => ?_
  · subst e
    exact ⟨.int d, H, I.kept hk, ⟨_, rfl⟩, q⟩
  · subst e
    obtain ⟨as, hr⟩ := hr
    rw [minOf_int] at hr
    cases hr
    exact ⟨.int _, H, I.kept hk, ⟨_, rfl⟩, q⟩
variable [Lams] {σ : L2.St} {F M H : Hp} {a b c e : Expr} {pos p p2 kpos : Pos} {α β γ : Type} {r : Rep α} {s : Rep β}
theorem ev_maxD {xs : List Int} {d : Int} (hc : X.calm = true) (hu : X.A.units + 64 < cLine) (hm : X.mg "max" = none) (ha : EvF X a σ F M (rdR X.K M iR) xs) (hb : EvF X b σ F M iR d) (hg : Gl X "max" := by rfl)
    (he0 : starEach [a] X.env = (false, eval a X.env) :: starEach [] X.env := by rfl)
    (he : backTo pos (starEach [a] X.env) = (false, eval a X.env) :: backTo pos (starEach [] X.env) := by rfl) (hpl : (backTo pos (starEach [a] X.env)).any (·.1) = false := by rfl)
    (hall : (backToKw pos (keywordEach [⟨some "default", b, kpos⟩] X.env)).all (·.1.isSome) = true := by rfl) (hnone : (backToKw pos (keywordEach [⟨some "default", b, kpos⟩] X.env)).any (·.1.isNone) = false := by rfl) (hks : (backToKw pos (keywordEach [⟨some "default", b, kpos⟩] X.env)).filterMap (·.1) = [("default" : Str)] := by rfl) :
    EvF X (.Call (.Name "max" p) [a] [⟨some "default", b, kpos⟩] pos) σ F M iR (mxD d xs) :=
  fun F1 H1 s w Q q => we_of (pe_callBK (cr_maxDf hc hu) hg hm (by decide +kernel) (pa_cons (pe_w a) pa_nil he0) (pk_cons (pe_w b) pk_nil) (by decide) (by decide) he hpl hall hnone hks) (ha F1 H1 s w _ fun F2 H2 v s2 w2 ⟨l, vs, e, hl, h2⟩ => hb F2 H2 (s.trans s2) w2 _ fun F3 H3 u s3 w3 hu' =>
    ⟨l, xs, d, by rw [e], by rw [show u = V.int d from hu'], by rw [← iR_map h2]; exact w3.sq (hl.imp (fun y => Same.sql s3 y) id), q F3 H3 _ (s2.trans s3) w3 rfl⟩)
theorem ev_minD {xs : List Int} {d : Int} (hc : X.calm = true) (hu : X.A.units + 64 < cLine) (hm : X.mg "min" = none) (ha : EvF X a σ F M (rdR X.K M iR) xs) (hb : EvF X b σ F M iR d) (hg : Gl X "min" := by rfl)
    (he0 : starEach [a] X.env = (false, eval a X.env) :: starEach [] X.env := by rfl)
    (he : backTo pos (starEach [a] X.env) = (false, eval a X.env) :: backTo pos (starEach [] X.env) := by rfl) (hpl : (backTo pos (starEach [a] X.env)).any (·.1) = false := by rfl)
    (hall : (backToKw pos (keywordEach [⟨some "default", b, kpos⟩] X.env)).all (·.1.isSome) = true := by rfl) (hnone : (backToKw pos (keywordEach [⟨some "default", b, kpos⟩] X.env)).any (·.1.isNone) = false := by rfl) (hks : (backToKw pos (keywordEach [⟨some "default", b, kpos⟩] X.env)).filterMap (·.1) = [("default" : Str)] := by rfl) :
    EvF X (.Call (.Name "min" p) [a] [⟨some "default", b, kpos⟩] pos) σ F M iR (mnD d xs) :=
  fun F1 H1 s w Q q => we_of (pe_callBK (cr_minDf hc hu) hg hm (by decide +kernel) (pa_cons (pe_w a) pa_nil he0) (pk_cons (pe_w b) pk_nil) (by decide) (by decide) he hpl hall hnone hks) (ha F1 H1 s w _ fun F2 H2 v s2 w2 ⟨l, vs, e, hl, h2⟩ => hb F2 H2 (s.trans s2) w2 _ fun F3 H3 u s3 w3 hu' =>
    ⟨l, xs, d, by rw [e], by rw [show u = V.int d from hu'], by rw [← iR_map h2]; exact w3.sq (hl.imp (fun y => Same.sql s3 y) id), q F3 H3 _ (s2.trans s3) w3 rfl⟩)
/-- of a list that isn't empty -/
theorem ev_maxL {xs : List Int} (hc : X.calm = true) (hm : X.mg "max" = none) (ha : EvF X a σ F M (rdR X.K M iR) xs) (hne : 0 < xs.length) (hg : Gl X "max" := by rfl) (he : starEach [a] X.env = (false, eval a X.env) :: starEach [] X.env := by rfl) (hpl : (backTo pos (starEach [] X.env)).any (·.1) = false := by rfl) :
    EvF X (.Call (.Name "max" p) [a] [] pos) σ F M iR (mxD 0 xs) :=
  fun F1 H1 s w Q q => we_of (pe_callB (cr_max hc) hg hm (by decide +kernel) (pa_cons (pe_w a) pa_nil he) (he := he) (hpl := hpl)) (ha F1 H1 s w _ fun F2 H2 v s2 w2 ⟨l, vs, e, hl, h2⟩ =>
    ⟨l, xs, by rw [e], by rw [← iR_map h2]; exact w2.sq hl, hne, fun m h1 h3 => q F2 H2 _ s2 w2 (by
      have a1 := mxD_ge (d := 0) h1
      have a2 := h3 _ (mxD_mem (d := 0) (xs := xs) (by intro z; subst z; simp at hne))
      show V.int m = V.int _
      congr 1; omega)⟩)
theorem ev_minL {xs : List Int} (hc : X.calm = true) (hm : X.mg "min" = none) (ha : EvF X a σ F M (rdR X.K M iR) xs) (hne : 0 < xs.length) (hg : Gl X "min" := by rfl) (he : starEach [a] X.env = (false, eval a X.env) :: starEach [] X.env := by rfl) (hpl : (backTo pos (starEach [] X.env)).any (·.1) = false := by rfl) :
    EvF X (.Call (.Name "min" p) [a] [] pos) σ F M iR (mnD 0 xs) :=
  fun F1 H1 s w Q q => we_of (pe_callB (cr_min hc) hg hm (by decide +kernel) (pa_cons (pe_w a) pa_nil he) (he := he) (hpl := hpl)) (ha F1 H1 s w _ fun F2 H2 v s2 w2 ⟨l, vs, e, hl, h2⟩ =>
    ⟨l, xs, by rw [e], by rw [← iR_map h2]; exact w2.sq hl, hne, fun m h1 h3 => q F2 H2 _ s2 w2 (by
      have a1 := mnD_le (d := 0) h1
      have a2 := h3 _ (mnD_mem (d := 0) (xs := xs) (by intro z; subst z; simp at hne))
      show V.int m = V.int _
      congr 1; omega)⟩)
theorem ev_sum {xs : List Int} (hc : X.calm = true) (hm : X.mg "sum" = none) (ha : EvF X a σ F M (rdR X.K M iR) xs) (hg : Gl X "sum" := by rfl) (he : starEach [a] X.env = (false, eval a X.env) :: starEach [] X.env := by rfl) (hpl : (backTo pos (starEach [] X.env)).any (·.1) = false := by rfl) :
    EvF X (.Call (.Name "sum" p) [a] [] pos) σ F M iR xs.sum :=
  fun F1 H1 s w Q q => we_of (pe_callB (cr_sum hc) hg hm (by decide +kernel) (pa_cons (pe_w a) pa_nil he) (he := he) (hpl := hpl)) (ha F1 H1 s w _ fun F2 H2 v s2 w2 ⟨l, vs, e, hl, h2⟩ =>
    ⟨l, xs, by rw [e], by rw [← iR_map h2]; exact w2.sq hl, q F2 H2 _ s2 w2 rfl⟩)
/-- xs[::-1] -/
theorem en_rev {xs : List α} {k : Nat} {q1 q2 q3 : Pos} [m : Mono r] (ha : EvF X a σ F M (rdR X.K M r) xs) : EvN X (.Subscript a (.Slice none none (some (.UnaryOp .USub (.Constant (.int 1) k q1) q2)) q3) pos) σ F M r xs.reverse :=
  fun F1 H1 s w Q q => we_of (pe_revL (pe_w a)) (ha F1 H1 s w _ fun F2 H2 v s2 w2 ⟨l, vs, e, hl, h2⟩ =>
    ⟨l, vs, e, w2.sq hl, fun p hp => q F2 _ p _ s2 (w2.more hp) (w2.noF hp) (w2.noM hp) upd_same h2.rev⟩)
/-- enumerate(xs), a, b the target -/
def enumL {α : Type} (xs : List α) : List (Int × α) := xs.zipIdx.map fun p => ((p.2 : Int), p.1)
omit [Lams] in
theorem enumL_get {α : Type} {xs : List α} {i : Nat} : (enumL xs)[i]? = xs[i]?.map fun x => ((i : Int), x) := by
  unfold enumL
  rw [List.getElem?_map, List.getElem?_zipIdx]
  cases xs[i]? <;> simp
omit [Lams] in
theorem enumL_len {α : Type} {xs : List α} : (enumL xs).length = xs.length := by unfold enumL; simp
theorem ei_enum {elts : List Expr} {kk : Nat} {tpos : Pos} {xs : List α} [m : Mono r] (hm : X.mg "enumerate" = none) (ha : EvF X a σ F M (rsR X.K r) xs) (hg : Gl X "enumerate" := by rfl) (hs : starEach [a] X.env = [(false, eval a X.env)] := by rfl) (hs2 : starEach [a] X.env = (false, eval a X.env) :: starEach [] X.env := by rfl) :
    EvI X (.Tuple elts kk tpos) (.Call (.Name "enumerate" p) [a] [] pos) σ F M (t2R iR r) (enumL xs) :=
  fun F1 H1 s w R q => wi_of (pi_enum hg hm (pa_cons (pe_w a) pa_nil hs2) hs) (ha F1 H1 s w _ fun F2 H2 v s2 w2 ⟨l, vs, e, hl, h2⟩ => ⟨l, vs, by rw [e], Same.sql w2.f hl, q F2 H2 _ s2 w2 fun i F3 M3 H3 s3 w3 =>
    ⟨fun hi => ⟨vs, Same.sql w3.f (Same.sql s3 hl), by rw [h2.len]; rw [enumL_len] at hi; exact hi⟩, fun x hx => by
      rw [enumL_get] at hx
      cases e2 : xs[i]? with
      | none => rw [e2] at hx; cases hx
      | some y =>
        rw [e2] at hx
        cases hx
        obtain ⟨u, hu, hr⟩ := h2.get e2
        refine ⟨⟨vs, u, Same.sql w3.f (Same.sql s3 hl), hu⟩, fun v' H' hy => ?_⟩
        obtain ⟨T, x', rfl, hT, rfl, hx'⟩ := hy
        have e3 := hx' vs (Same.sql w3.f (Same.sql s3 hl))
        rw [hu] at e3
        cases e3
        exact ⟨_, same_new (w3.noF hT), w3.newF hT, T, _, _, rfl, upd_same, rfl, Mono.mono (s3.trans (same_new (w3.noF hT))) hr⟩⟩⟩)
/-- zip(xs, ys), of one length -/
theorem ei_zip {elts : List Expr} {kk : Nat} {tpos : Pos} {xs : List α} {ys : List β} [m : Mono r] [m2 : Mono s] (hm : X.mg "zip" = none) (ha : EvF X a σ F M (rsR X.K r) xs) (hb : EvF X b σ F M (rsR X.K s) ys) (hlen : xs.length = ys.length) (hg : Gl X "zip" := by rfl)
    (hs : starEach [a, b] X.env = (false, eval a X.env) :: starEach [b] X.env := by rfl) (hs2 : starEach [b] X.env = (false, eval b X.env) :: starEach [] X.env := by rfl) (hpl : (backTo pos (starEach [b] X.env)).any (·.1) = false := by rfl) :
    EvI X (.Tuple elts kk tpos) (.Call (.Name "zip" p) [a, b] [] pos) σ F M (t2R r s) (xs.zip ys) :=
  fun F1 H1 s1 w R q => wi_of (pi_zip hg hm (pa_cons (pe_w a) (pa_cons (pe_w b) pa_nil hs2) hs) hs hpl) (ha F1 H1 s1 w _ fun F2 H2 v s2 w2 ⟨l, vs, e, hl, h2⟩ => hb F2 H2 (s1.trans s2) w2 _ fun F3 H3 v' s3 w3 ⟨l', vs', e', hl', h2'⟩ =>
    ⟨l, l', vs, vs', by rw [e, e'], Same.sql w3.f (Same.sql s3 hl), Same.sql w3.f hl', q F3 H3 _ (s2.trans s3) w3 fun i F4 M4 H4 s4 w4 =>
    ⟨fun hi => ⟨vs, vs', Same.sql w4.f (Same.sql (s3.trans s4) hl), Same.sql w4.f (Same.sql s4 hl'), by
        rw [List.length_zip] at hi
        have := h2.len; have := h2'.len
        first | omega | exact .inl (by omega)⟩, fun x hx => by
      rw [List.getElem?_zip_eq_some] at hx
      obtain ⟨u, hu, hr⟩ := h2.get hx.1
      obtain ⟨u', hu', hr'⟩ := h2'.get hx.2
      refine ⟨⟨vs, vs', u, u', Same.sql w4.f (Same.sql (s3.trans s4) hl), Same.sql w4.f (Same.sql s4 hl'), hu, hu'⟩, fun z H' hy => ?_⟩
      obtain ⟨T, x1, x2, rfl, hT, rfl, f1, f2⟩ := hy
      have e1 := f1 vs (Same.sql w4.f (Same.sql (s3.trans s4) hl))
      have e2 := f2 vs' (Same.sql w4.f (Same.sql s4 hl'))
      rw [hu] at e1; cases e1
      rw [hu'] at e2; cases e2
      exact ⟨_, same_new (w4.noF hT), w4.newF hT, T, _, _, rfl, upd_same, Mono.mono ((s3.trans s4).trans (same_new (w4.noF hT))) hr, Mono.mono (s4.trans (same_new (w4.noF hT))) hr'⟩⟩⟩)
theorem ev_abs {i : Int} (hm : X.mg "abs" = none) (ha : EvF X a σ F M iR i) (hg : Gl X "abs" := by rfl) (he : starEach [a] X.env = (false, eval a X.env) :: starEach [] X.env := by rfl) (hpl : (backTo pos (starEach [] X.env)).any (·.1) = false := by rfl) :
    EvF X (.Call (.Name "abs" p) [a] [] pos) σ F M iR (if i < 0 then -i else i) :=
  fun F1 H1 s w Q q => we_of (pe_callB call_abs hg hm (by decide +kernel) (pa_cons (pe_w a) pa_nil he) (he := he) (hpl := hpl)) (ha F1 H1 s w _ fun F2 H2 v s2 w2 hv => ⟨i, by rw [show v = V.int i from hv], q F2 H2 _ s2 w2 rfl⟩)
end
end Y

/-! ### comprehensions with a tuple target; lists of unlike things; what is unpacked; what may be spoiled -/
namespace Y
open PySem PySem.Spec PyProof.Rows L2
section
variable [Lams] {X : Cx} {σ : L2.St} {F M H : Hp} {a b c e : Expr} {pos p p2 p3 p4 : Pos} {α β γ δ : Type} {r1 : Rep α} {r2 : Rep β} {r3 : Rep γ} {s : Rep δ} {n n2 n3 : Str} {rest : List Stmt} {D : Ends}
omit [Lams] in
theorem wipe_set_out {i : Nat} {x : Option V} : ∀ {ws : List Nat} {τ : L2.St}, i ∉ ws → wipe (List.set τ i x) ws = List.set (wipe τ ws) i x
  | [], _, _ => rfl
  | v :: vs, τ, h => by
    have h1 : i ≠ v := fun q => h (by simp [q])
    have h2 : i ∉ vs := fun q => h (by simp [q])
    show List.set (wipe (List.set τ i x) vs) v none = List.set (List.set (wipe τ vs) v none) i x
    rw [wipe_set_out h2, List.set_comm _ _ h1]
omit [Lams] in
theorem wipe_set_in {i : Nat} {x : Option V} : ∀ {ws : List Nat} {τ : L2.St}, i ∈ ws → wipe (List.set τ i x) ws = wipe τ ws
  | [], _, h => by simp at h
  | v :: vs, τ, h => by
    show List.set (wipe (List.set τ i x) vs) v none = List.set (wipe τ vs) v none
    by_cases q : i ∈ vs
    · rw [wipe_set_in q]
    · have e : i = v := by
        rcases List.mem_cons.mp h with e | e
        · exact e
        · exact absurd e q
      subst e
      rw [wipe_set_out q, List.set_set]
omit [Lams] in
theorem wipe_wipe {τ : L2.St} : ∀ {us ws : List Nat}, (∀ i ∈ us, i ∈ ws) → wipe (wipe τ us) ws = wipe τ ws
  | [], _, _ => rfl
  | u :: us, ws, h => by
    show wipe (List.set (wipe τ us) u none) ws = wipe τ ws
    rw [wipe_set_in (h u (by simp)), wipe_wipe fun i hi => h i (by simp [hi])]
omit [Lams] in
theorem wipe2 {σ : L2.St} {i j : Nat} {u v : Option V} : wipe (List.set (List.set (wipe σ [i, j]) i u) j v) [i, j] = wipe σ [i, j] := by
  rw [wipe_set_in (by simp), wipe_set_in (by simp), wipe_wipe (by simp)]
omit [Lams] in
theorem wipe3 {σ : L2.St} {i j k : Nat} {u v z : Option V} : wipe (List.set (List.set (List.set (wipe σ [i, j, k]) i u) j v) k z) [i, j, k] = wipe σ [i, j, k] := by
  rw [wipe_set_in (by simp), wipe_set_in (by simp), wipe_set_in (by simp), wipe_wipe (by simp)]
abbrev PGb (X : Cx) (scope : Scope) (tg : Expr) (g : TG) : Prop := ∀ (s : Shared) (H : Hp) (C : Addr) (cl : List (Str × Addr)) (fp : List Addr), PG (X.blk s H scope (compEnvC scope cl C X.env) fp) tg g
omit [Lams] in
theorem pg_b2 {scope : Scope} {i j : Nat} {ki} (hN : X.N.Nodup) (hc : X.calm = true := by rfl) (h1 : X.N[i]? = some n := by rfl) (h2 : X.N[j]? = some n2 := by rfl) (f1 : ∀ s H C cl fp, Loc (X.blk s H scope (compEnvC scope cl C X.env) fp).env.scope n := by exact fun _ _ _ _ _ => Or.inl rfl) (f2 : ∀ s H C cl fp, Loc (X.blk s H scope (compEnvC scope cl C X.env) fp).env.scope n2 := by exact fun _ _ _ _ _ => Or.inl rfl)
    (k1 : ∀ s H C cl fp, (X.blk s H scope (compEnvC scope cl C X.env) fp).fn n = true ∨ (X.blk s H scope (compEnvC scope cl C X.env) fp).env.scope.names.lookup n = some .local := by first | exact fun _ _ _ _ _ => .inl rfl | exact fun _ _ _ _ _ => .inr rfl) (k2 : ∀ s H C cl fp, (X.blk s H scope (compEnvC scope cl C X.env) fp).fn n2 = true ∨ (X.blk s H scope (compEnvC scope cl C X.env) fp).env.scope.names.lookup n2 = some .local := by first | exact fun _ _ _ _ _ => .inl rfl | exact fun _ _ _ _ _ => .inr rfl) :
    PGb X scope (.Tuple [.Name n p, .Name n2 p2] ki p3) (gTup X.K 2 (gCons (gName i) (gCons (gName j) gNil))) := fun s H C cl fp =>
  pg_tup hc (pgs_cons (pg_name hN h1 (f1 s H C cl fp) (k1 s H C cl fp)) (pgs_cons (pg_name hN h2 (f2 s H C cl fp) (k2 s H C cl fp)) pgs_nil rfl) rfl) rfl rfl
omit [Lams] in
theorem pg_b3 {scope : Scope} {i j k : Nat} {ki} (hN : X.N.Nodup) (hc : X.calm = true := by rfl) (h1 : X.N[i]? = some n := by rfl) (h2 : X.N[j]? = some n2 := by rfl) (h3 : X.N[k]? = some n3 := by rfl) (f1 : ∀ s H C cl fp, Loc (X.blk s H scope (compEnvC scope cl C X.env) fp).env.scope n := by exact fun _ _ _ _ _ => Or.inl rfl) (f2 : ∀ s H C cl fp, Loc (X.blk s H scope (compEnvC scope cl C X.env) fp).env.scope n2 := by exact fun _ _ _ _ _ => Or.inl rfl) (f3 : ∀ s H C cl fp, Loc (X.blk s H scope (compEnvC scope cl C X.env) fp).env.scope n3 := by exact fun _ _ _ _ _ => Or.inl rfl)
    (k1 : ∀ s H C cl fp, (X.blk s H scope (compEnvC scope cl C X.env) fp).fn n = true ∨ (X.blk s H scope (compEnvC scope cl C X.env) fp).env.scope.names.lookup n = some .local := by first | exact fun _ _ _ _ _ => .inl rfl | exact fun _ _ _ _ _ => .inr rfl) (k2 : ∀ s H C cl fp, (X.blk s H scope (compEnvC scope cl C X.env) fp).fn n2 = true ∨ (X.blk s H scope (compEnvC scope cl C X.env) fp).env.scope.names.lookup n2 = some .local := by first | exact fun _ _ _ _ _ => .inl rfl | exact fun _ _ _ _ _ => .inr rfl) (k3 : ∀ s H C cl fp, (X.blk s H scope (compEnvC scope cl C X.env) fp).fn n3 = true ∨ (X.blk s H scope (compEnvC scope cl C X.env) fp).env.scope.names.lookup n3 = some .local := by first | exact fun _ _ _ _ _ => .inl rfl | exact fun _ _ _ _ _ => .inr rfl) :
    PGb X scope (.Tuple [.Name n p, .Name n2 p2, .Name n3 p3] ki p4) (gTup X.K 3 (gCons (gName i) (gCons (gName j) (gCons (gName k) gNil)))) := fun s H C cl fp =>
  pg_tup hc (pgs_cons (pg_name hN h1 (f1 s H C cl fp) (k1 s H C cl fp)) (pgs_cons (pg_name hN h2 (f2 s H C cl fp) (k2 s H C cl fp)) (pgs_cons (pg_name hN h3 (f3 s H C cl fp) (k3 s H C cl fp)) pgs_nil rfl) rfl) rfl) rfl rfl
/-- [.. for x, y in ..]: x in slot i, y in slot j -/
theorem en_lc2 (i j : Nat) {elt it : Expr} {ifs : List Expr} {scope : Scope} {ki} {xs : List (α × β)} [m : Mono s] (pr : α × β → Bool) (f : α × β → δ)
    (hi : EvI X (.Tuple [.Name n p, .Name n2 p2] ki p3) it σ F M (t2R r1 r2) xs)
    (ht : ∀ x y u v F1 M1, (x, y) ∈ xs → Sub F F1 → Same M M1 → r1 F1 u x → r2 F1 v y → ∀ Y, Blk X scope Y → EvTs Y ifs (((wipe σ [i, j]).set i (some u)).set j (some v)) F1 M1 (pr (x, y)) ∧ (pr (x, y) = true → EvF Y elt (((wipe σ [i, j]).set i (some u)).set j (some v)) F1 M1 s (f (x, y))))
    (hl : xs.length < 1000000) (hN : X.N.Nodup) (hg : PGb X scope (.Tuple [.Name n p, .Name n2 p2] ki p3) (gTup X.K 2 (gCons (gName i) (gCons (gName j) gNil))) := by exact pg_b2 (by assumption)) (hb : blkC X.N X.env.scope scope [(n, i), (n2, j)] = true := by decide +kernel) (hc : X.calm = true := by rfl)
    (hs : ∀ x, foldedSetIterable it X.env x = pure x := by intro _; rfl) :
    EvN X (.ListComp elt [⟨.Tuple [.Name n p, .Name n2 p2] ki p3, it, ifs, 0⟩] scope pos) σ F M s ((xs.filter pr).map f) :=
  en_lc_core [(n, i), (n2, j)] pr f hi hg (fun q v F1 M1 H1 hx s1 s2 w ⟨l, u, z, e, hl, hr1, hr2⟩ R k =>
    ⟨l, _, e, SqT.of (w.f _ _ hl), rfl, _, _, rfl, _, _, rfl, rfl, k _ wipe2 (fun Y hY => (ht q.1 q.2 u z F1 M1 hx s1 s2 hr1 hr2 Y hY).1) (fun hp Y hY => (ht q.1 q.2 u z F1 M1 hx s1 s2 hr1 hr2 Y hY).2 hp)⟩) hl hN (blkOk_by hb) hc hs
theorem ss_lc2 (k i j : Nat) {y : Str} {py spos : Pos} {elt it : Expr} {ifs : List Expr} {scope : Scope} {ki} {xs : List (α × β)} [m : Mono s] (pr : α × β → Bool) (f : α × β → δ)
    (hi : EvI X (.Tuple [.Name n p, .Name n2 p2] ki p3) it σ F M (t2R r1 r2) xs)
    (ht : ∀ x y u v F1 M1, (x, y) ∈ xs → Sub F F1 → Same M M1 → r1 F1 u x → r2 F1 v y → ∀ Y, Blk X scope Y → EvTs Y ifs (((wipe σ [i, j]).set i (some u)).set j (some v)) F1 M1 (pr (x, y)) ∧ (pr (x, y) = true → EvF Y elt (((wipe σ [i, j]).set i (some u)).set j (some v)) F1 M1 s (f (x, y))))
    (hl : xs.length < 1000000) (hN : X.N.Nodup) (w : Own F M H)
    (kk : ∀ F2 H2 l vs, Same F F2 → M l = none → Own F2 (upd M l (.lst vs)) H2 → A2 (s F2) vs ((xs.filter pr).map f) → WSs X rest D (σ.set k (some (.ref l))) H2)
    (hy : X.N[k]? = some y := by rfl) (hyl : X.env.scope.names.lookup y = some .local := by rfl) (hsw : swapsWith (.ListComp elt [⟨.Tuple [.Name n p, .Name n2 p2] ki p3, it, ifs, 0⟩] scope pos) (some (.Name y py)) spos.line X.env = pure true := by exact sw_true rfl rfl rfl (by decide +kernel))
    (hg : PGb X scope (.Tuple [.Name n p, .Name n2 p2] ki p3) (gTup X.K 2 (gCons (gName i) (gCons (gName j) gNil))) := by exact pg_b2 (by assumption)) (hb : blkC X.N X.env.scope scope [(n, i), (n2, j)] = true := by decide +kernel) (hc : X.calm = true := by rfl)
    (hs : ∀ x, foldedSetIterable it X.env x = pure x := by intro _; rfl) :
    WSs X (.Assign [.Name y py] (.ListComp elt [⟨.Tuple [.Name n p, .Name n2 p2] ki p3, it, ifs, 0⟩] scope pos) spos :: rest) D σ H :=
  ss_lc_core k [(n, i), (n2, j)] pr f hi hg (fun q v F1 M1 H1 hx s1 s2 w ⟨l, u, z, e, hl, hr1, hr2⟩ R k =>
    ⟨l, _, e, SqT.of (w.f _ _ hl), rfl, _, _, rfl, _, _, rfl, rfl, k _ wipe2 (fun Y hY => (ht q.1 q.2 u z F1 M1 hx s1 s2 hr1 hr2 Y hY).1) (fun hp Y hY => (ht q.1 q.2 u z F1 M1 hx s1 s2 hr1 hr2 Y hY).2 hp)⟩) hl hN (blkOk_by hb) w kk hy hyl hsw hc hs
theorem en_lc3 (i j k : Nat) {elt it : Expr} {ifs : List Expr} {scope : Scope} {ki} {xs : List (α × β × γ)} [m : Mono s] (pr : α × β × γ → Bool) (f : α × β × γ → δ)
    (hi : EvI X (.Tuple [.Name n p, .Name n2 p2, .Name n3 p3] ki p4) it σ F M (t3R r1 r2 r3) xs)
    (ht : ∀ x y z u v t F1 M1, (x, y, z) ∈ xs → Sub F F1 → Same M M1 → r1 F1 u x → r2 F1 v y → r3 F1 t z → ∀ Y, Blk X scope Y → EvTs Y ifs ((((wipe σ [i, j, k]).set i (some u)).set j (some v)).set k (some t)) F1 M1 (pr (x, y, z)) ∧ (pr (x, y, z) = true → EvF Y elt ((((wipe σ [i, j, k]).set i (some u)).set j (some v)).set k (some t)) F1 M1 s (f (x, y, z))))
    (hl : xs.length < 1000000) (hN : X.N.Nodup) (hg : PGb X scope (.Tuple [.Name n p, .Name n2 p2, .Name n3 p3] ki p4) (gTup X.K 3 (gCons (gName i) (gCons (gName j) (gCons (gName k) gNil)))) := by exact pg_b3 (by assumption)) (hb : blkC X.N X.env.scope scope [(n, i), (n2, j), (n3, k)] = true := by decide +kernel) (hc : X.calm = true := by rfl)
    (hs : ∀ x, foldedSetIterable it X.env x = pure x := by intro _; rfl) :
    EvN X (.ListComp elt [⟨.Tuple [.Name n p, .Name n2 p2, .Name n3 p3] ki p4, it, ifs, 0⟩] scope pos) σ F M s ((xs.filter pr).map f) :=
  en_lc_core [(n, i), (n2, j), (n3, k)] pr f hi hg (fun q v F1 M1 H1 hx s1 s2 w ⟨l, u, z, t, e, hl, hr1, hr2, hr3⟩ R kk =>
    ⟨l, _, e, SqT.of (w.f _ _ hl), rfl, _, _, rfl, _, _, rfl, _, _, rfl, rfl, kk _ wipe3 (fun Y hY => (ht q.1 q.2.1 q.2.2 u z t F1 M1 hx s1 s2 hr1 hr2 hr3 Y hY).1) (fun hp Y hY => (ht q.1 q.2.1 q.2.2 u z t F1 M1 hx s1 s2 hr1 hr2 hr3 Y hY).2 hp)⟩) hl hN (blkOk_by hb) hc hs
theorem ss_lc3 (l0 i j k : Nat) {y : Str} {py spos : Pos} {elt it : Expr} {ifs : List Expr} {scope : Scope} {ki} {xs : List (α × β × γ)} [m : Mono s] (pr : α × β × γ → Bool) (f : α × β × γ → δ)
    (hi : EvI X (.Tuple [.Name n p, .Name n2 p2, .Name n3 p3] ki p4) it σ F M (t3R r1 r2 r3) xs)
    (ht : ∀ x y z u v t F1 M1, (x, y, z) ∈ xs → Sub F F1 → Same M M1 → r1 F1 u x → r2 F1 v y → r3 F1 t z → ∀ Y, Blk X scope Y → EvTs Y ifs ((((wipe σ [i, j, k]).set i (some u)).set j (some v)).set k (some t)) F1 M1 (pr (x, y, z)) ∧ (pr (x, y, z) = true → EvF Y elt ((((wipe σ [i, j, k]).set i (some u)).set j (some v)).set k (some t)) F1 M1 s (f (x, y, z))))
    (hl : xs.length < 1000000) (hN : X.N.Nodup) (w : Own F M H)
    (kk : ∀ F2 H2 l vs, Same F F2 → M l = none → Own F2 (upd M l (.lst vs)) H2 → A2 (s F2) vs ((xs.filter pr).map f) → WSs X rest D (σ.set l0 (some (.ref l))) H2)
    (hy : X.N[l0]? = some y := by rfl) (hyl : X.env.scope.names.lookup y = some .local := by rfl) (hsw : swapsWith (.ListComp elt [⟨.Tuple [.Name n p, .Name n2 p2, .Name n3 p3] ki p4, it, ifs, 0⟩] scope pos) (some (.Name y py)) spos.line X.env = pure true := by exact sw_true rfl rfl rfl (by decide +kernel))
    (hg : PGb X scope (.Tuple [.Name n p, .Name n2 p2, .Name n3 p3] ki p4) (gTup X.K 3 (gCons (gName i) (gCons (gName j) (gCons (gName k) gNil)))) := by exact pg_b3 (by assumption)) (hb : blkC X.N X.env.scope scope [(n, i), (n2, j), (n3, k)] = true := by decide +kernel) (hc : X.calm = true := by rfl)
    (hs : ∀ x, foldedSetIterable it X.env x = pure x := by intro _; rfl) :
    WSs X (.Assign [.Name y py] (.ListComp elt [⟨.Tuple [.Name n p, .Name n2 p2, .Name n3 p3] ki p4, it, ifs, 0⟩] scope pos) spos :: rest) D σ H :=
  ss_lc_core l0 [(n, i), (n2, j), (n3, k)] pr f hi hg (fun q v F1 M1 H1 hx s1 s2 w ⟨l, u, z, t, e, hl, hr1, hr2, hr3⟩ R kk =>
    ⟨l, _, e, SqT.of (w.f _ _ hl), rfl, _, _, rfl, _, _, rfl, _, _, rfl, rfl, kk _ wipe3 (fun Y hY => (ht q.1 q.2.1 q.2.2 u z t F1 M1 hx s1 s2 hr1 hr2 hr3 Y hY).1) (fun hp Y hY => (ht q.1 q.2.1 q.2.2 u z t F1 M1 hx s1 s2 hr1 hr2 hr3 Y hY).2 hp)⟩) hl hN (blkOk_by hb) w kk hy hyl hsw hc hs
end
end Y

/-! ### lists of unlike things; what is unpacked; what may be spoiled -/
namespace Y
open PySem PySem.Spec PyProof.Rows L2
/-- a list of two, three unlike things -/
def h2R {α β : Type} (r : Rep α) (s : Rep β) : Rep (α × β) := fun F v x => ∃ a u w, v = .ref a ∧ F a = some (.lst [u, w]) ∧ r F u x.1 ∧ s F w x.2
def h3R {α β γ : Type} (r : Rep α) (s : Rep β) (t : Rep γ) : Rep (α × β × γ) := fun F v x => ∃ a u w z, v = .ref a ∧ F a = some (.lst [u, w, z]) ∧ r F u x.1 ∧ s F w x.2.1 ∧ t F z x.2.2
instance {α β : Type} {r : Rep α} {s : Rep β} [m : Mono r] [n : Mono s] : Mono (h2R r s) := ⟨fun e ⟨a, u, w, h1, h2, h3, h4⟩ => ⟨a, u, w, h1, e.lst h2, m.sub e h3, n.sub e h4⟩⟩
instance {α β γ : Type} {r : Rep α} {s : Rep β} {t : Rep γ} [m : Mono r] [n : Mono s] [k : Mono t] : Mono (h3R r s t) := ⟨fun e ⟨a, u, w, z, h1, h2, h3, h4, h5⟩ => ⟨a, u, w, z, h1, e.lst h2, m.sub e h3, n.sub e h4, k.sub e h5⟩⟩
instance {α β : Type} {r : Rep α} {s : Rep β} : NotN (h2R r s) := ⟨fun ⟨a, _, _, e, _⟩ => by subst e; exact fun z => nomatch z⟩
instance {α β : Type} {r : Rep α} {s : Rep β} : TyIs (h2R r s) "list" := ⟨fun ⟨a, u, w, e, h, _⟩ => by subst e; exact .base (.lst h)⟩
instance {α β γ : Type} {r : Rep α} {s : Rep β} {t : Rep γ} : TyIs (h3R r s t) "list" := ⟨fun ⟨a, u, w, z, e, h, _⟩ => by subst e; exact .base (.lst h)⟩
instance {α β : Type} {r : Rep α} {s : Rep β} [d : DEq r] [e : DEq s] : DEq (h2R r s) where
  toD := fun x => .list [d.toD x.1, e.toD x.2]
  dep := max d.dep e.dep + 1
  dp := fun ⟨a, u, w, q, h1, h2, h3⟩ => by subst q; exact .lst (SqL.of h1) (.cons (d.dp h2) (.cons (e.dp h3) .nil))
  lay := fun ⟨a, u, w, q, h1, h2, h3⟩ => by
    show (PyData.canLay0 _ && (PyData.canLay0 _ && true)) = true
    rw [d.lay h2, e.lay h3]; rfl
  dpt := fun x => by
    show max (PyData.depth _) (max (PyData.depth _) 0) + 1 ≤ _
    have h1 := d.dpt x.1
    have h2 := e.dpt x.2
    omega
  eqv := fun x y => by
    show ((PyData.eqv _ _ && (PyData.eqv _ _ && true)) = true) ↔ _
    rw [Bool.and_eq_true, Bool.and_eq_true, d.eqv, e.eqv]
    cases x; cases y; simp
instance {α β γ : Type} {r : Rep α} {s : Rep β} {t : Rep γ} [d : DEq r] [e : DEq s] [f : DEq t] : DEq (h3R r s t) where
  toD := fun x => .list [d.toD x.1, e.toD x.2.1, f.toD x.2.2]
  dep := max d.dep (max e.dep f.dep) + 1
  dp := fun ⟨a, u, w, z, q, h1, h2, h3, h4⟩ => by subst q; exact .lst (SqL.of h1) (.cons (d.dp h2) (.cons (e.dp h3) (.cons (f.dp h4) .nil)))
  lay := fun ⟨a, u, w, z, q, h1, h2, h3, h4⟩ => by
    show (PyData.canLay0 _ && (PyData.canLay0 _ && (PyData.canLay0 _ && true))) = true
    rw [d.lay h2, e.lay h3, f.lay h4]; rfl
  dpt := fun x => by
    show max (PyData.depth _) (max (PyData.depth _) (max (PyData.depth _) 0)) + 1 ≤ _
    have h1 := d.dpt x.1
    have h2 := e.dpt x.2.1
    have h3 := f.dpt x.2.2
    omega
  eqv := fun x y => by
    show ((PyData.eqv _ _ && (PyData.eqv _ _ && (PyData.eqv _ _ && true))) = true) ↔ _
    rw [Bool.and_eq_true, Bool.and_eq_true, Bool.and_eq_true, d.eqv, e.eqv, f.eqv]
    obtain ⟨x1, x2, x3⟩ := x
    obtain ⟨y1, y2, y3⟩ := y
    simp
/-- a list that is not of the heap F0: it came to be later -/
def lNR (F0 : Hp) {α : Type} (r : Rep α) : Rep (List α) := fun F v xs => ∃ a vs, v = .ref a ∧ F0 a = none ∧ F a = some (.lst vs) ∧ A2 (r F) vs xs
instance {F0 : Hp} {α : Type} {r : Rep α} [m : Mono r] : Mono (lNR F0 r) := ⟨fun e ⟨a, vs, h1, h0, h2, h3⟩ => ⟨a, vs, h1, h0, e.lst h2, h3.sub e⟩⟩
theorem lNR.l {F0 F : Hp} {α : Type} {r : Rep α} {v : V} {xs : List α} (h : lNR F0 r F v xs) : lR r F v xs := let ⟨a, vs, h1, _, h2, h3⟩ := h; ⟨a, vs, h1, h2, h3⟩
theorem A2.mono2 {α : Type} {r s : Rep α} {F : Hp} (f : ∀ v x, r F v x → s F v x) {vs : List V} {xs : List α} (h : A2 (r F) vs xs) : A2 (s F) vs xs := h.imp f
section
variable [Lams] {X : Cx} {σ : L2.St} {F M H : Hp} {a b c e : Expr} {pos p p2 p3 p4 : Pos} {α β γ δ : Type} {r : Rep α} {r1 : Rep α} {r2 : Rep β} {r3 : Rep γ} {s : Rep δ} {n n2 n3 : Str} {rest : List Stmt} {D : Ends}
theorem Ev.ln {F0 : Hp} {xs : List α} (h : EvF X e σ F M (lNR F0 r) xs) : EvF X e σ F M (lR r) xs := h.imp fun _ _ q => q.l
theorem EvN.eqx {xs ys : List α} (h : EvN X e σ F M r xs) (q : xs = ys) : EvN X e σ F M r ys := q ▸ h
theorem EvN.fzN {xs : List α} [m : Mono r] (h : EvN X e σ F M r xs) : EvF X e σ F M (lNR F r) xs := fun F1 H1 s w Q q => h F1 H1 s w Q fun F2 H2 a vs s2 w2 n1 n2 hh h2 =>
  q _ H2 _ (s2.trans (same_new n1)) (w2.keepF n1 n2 hh) ⟨a, vs, rfl, Same.no (s.trans s2) n1, upd_same, h2.up (same_new n1)⟩
theorem ev_h2 {a b : Expr} {x : α} {y : β} [m : Mono r1] [n : Mono r2] (ha : EvF X a σ F M r1 x) (hb : EvF X b σ F M r2 y) (hs : starEach [a, b] X.env = (false, eval a X.env) :: starEach [b] X.env := by rfl) (hs2 : starEach [b] X.env = (false, eval b X.env) :: starEach [] X.env := by rfl) :
    EvF X (.List [a, b] pos) σ F M (h2R r1 r2) (x, y) :=
  fun F1 H1 s w Q q => we_of (pe_lst (pa_w [a, b])) (ea_cons ha (ea_cons hb ea_nil hs2) hs F1 H1 s w _ fun F2 H2 vs s2 w2 ⟨v, us, e1, h1, u, us2, e2, h2, e3⟩ => by
    subst e1 e2 e3
    refine ⟨small_of (by simp), fun p hp => ?_⟩
    exact q _ _ _ (s2.trans (same_new (w2.noF hp))) (w2.newF hp) ⟨p, v, u, rfl, upd_same, Mono.mono (same_new (w2.noF hp)) h1, Mono.mono (same_new (w2.noF hp)) h2⟩)
theorem ev_h3 {a b c : Expr} {x : α} {y : β} {z : γ} [m : Mono r1] [n : Mono r2] [k : Mono r3] (ha : EvF X a σ F M r1 x) (hb : EvF X b σ F M r2 y) (hc : EvF X c σ F M r3 z) (hs : starEach [a, b, c] X.env = (false, eval a X.env) :: starEach [b, c] X.env := by rfl)
    (hs1 : starEach [b, c] X.env = (false, eval b X.env) :: starEach [c] X.env := by rfl) (hs2 : starEach [c] X.env = (false, eval c X.env) :: starEach [] X.env := by rfl) :
    EvF X (.List [a, b, c] pos) σ F M (h3R r1 r2 r3) (x, y, z) :=
  fun F1 H1 s w Q q => we_of (pe_lst (pa_w [a, b, c])) (ea_cons ha (ea_cons hb (ea_cons hc ea_nil hs2) hs1) hs F1 H1 s w _ fun F2 H2 vs s2 w2 ⟨v, us, e1, h1, u, us2, e2, h2, u3, us3, e3, h3, e4⟩ => by
    subst e1 e2 e3 e4
    refine ⟨small_of (by simp), fun p hp => ?_⟩
    exact q _ _ _ (s2.trans (same_new (w2.noF hp))) (w2.newF hp) ⟨p, v, u, u3, rfl, upd_same, Mono.mono (same_new (w2.noF hp)) h1, Mono.mono (same_new (w2.noF hp)) h2, Mono.mono (same_new (w2.noF hp)) h3⟩)
theorem ev_h2_0 {x : α × β} {j} {q1} (ha : EvF X a σ F M (h2R r1 r2) x) (hs : PlainIx (.Constant (.int 0) j q1) := by exact fun _ _ => rfl) : EvF X (.Subscript a (.Constant (.int 0) j q1) pos) σ F M r1 x.1 :=
  fun F1 H1 s w Q q => we_of (pe_ix ix_list (pe_w a) pe_int hs) (ha F1 H1 s w _ fun F2 H2 v s2 w2 ⟨l, u, z, e, hl, h1, h2⟩ => ⟨l, _, 0, u, e, rfl, SqL.of (w2.f _ _ hl), rfl, q F2 H2 _ s2 w2 h1⟩)
theorem ev_h2_1 {x : α × β} {j} {q1} (ha : EvF X a σ F M (h2R r1 r2) x) (hs : PlainIx (.Constant (.int 1) j q1) := by exact fun _ _ => rfl) : EvF X (.Subscript a (.Constant (.int 1) j q1) pos) σ F M r2 x.2 :=
  fun F1 H1 s w Q q => we_of (pe_ix ix_list (pe_w a) pe_int hs) (ha F1 H1 s w _ fun F2 H2 v s2 w2 ⟨l, u, z, e, hl, h1, h2⟩ => ⟨l, _, 1, z, e, rfl, SqL.of (w2.f _ _ hl), rfl, q F2 H2 _ s2 w2 h2⟩)
theorem ev_h3_0 {x : α × β × γ} {j} {q1} (ha : EvF X a σ F M (h3R r1 r2 r3) x) (hs : PlainIx (.Constant (.int 0) j q1) := by exact fun _ _ => rfl) : EvF X (.Subscript a (.Constant (.int 0) j q1) pos) σ F M r1 x.1 :=
  fun F1 H1 s w Q q => we_of (pe_ix ix_list (pe_w a) pe_int hs) (ha F1 H1 s w _ fun F2 H2 v s2 w2 ⟨l, u, z, y, e, hl, h1, h2, h3⟩ => ⟨l, _, 0, u, e, rfl, SqL.of (w2.f _ _ hl), rfl, q F2 H2 _ s2 w2 h1⟩)
theorem ev_h3_1 {x : α × β × γ} {j} {q1} (ha : EvF X a σ F M (h3R r1 r2 r3) x) (hs : PlainIx (.Constant (.int 1) j q1) := by exact fun _ _ => rfl) : EvF X (.Subscript a (.Constant (.int 1) j q1) pos) σ F M r2 x.2.1 :=
  fun F1 H1 s w Q q => we_of (pe_ix ix_list (pe_w a) pe_int hs) (ha F1 H1 s w _ fun F2 H2 v s2 w2 ⟨l, u, z, y, e, hl, h1, h2, h3⟩ => ⟨l, _, 1, z, e, rfl, SqL.of (w2.f _ _ hl), rfl, q F2 H2 _ s2 w2 h2⟩)
theorem ev_h3_2 {x : α × β × γ} {j} {q1} (ha : EvF X a σ F M (h3R r1 r2 r3) x) (hs : PlainIx (.Constant (.int 2) j q1) := by exact fun _ _ => rfl) : EvF X (.Subscript a (.Constant (.int 2) j q1) pos) σ F M r3 x.2.2 :=
  fun F1 H1 s w Q q => we_of (pe_ix ix_list (pe_w a) pe_int hs) (ha F1 H1 s w _ fun F2 H2 v s2 w2 ⟨l, u, z, y, e, hl, h1, h2, h3⟩ => ⟨l, _, 2, y, e, rfl, SqL.of (w2.f _ _ hl), rfl, q F2 H2 _ s2 w2 h3⟩)
/-- d[k] where k is a key -/
def dG {κ α : Type} [DecidableEq κ] [Inhabited α] (k : κ) (kvs : List (κ × α)) : α := (lk k kvs).getD default
omit [Lams] in
theorem lk_dG {κ α : Type} [DecidableEq κ] [Inhabited α] {k : κ} {kvs : List (κ × α)} (h : (lk k kvs).isSome = true) : lk k kvs = some (dG k kvs) := by
  unfold dG
  cases q : lk k kvs with
  | none => rw [q] at h; cases h
  | some x => rfl
omit [Lams] in
theorem dG_pt {κ α : Type} [DecidableEq κ] [Inhabited α] {k j : κ} {x : α} {kvs : List (κ × α)} : dG j (pt k x kvs) = if k = j then x else dG j kvs := by
  unfold dG
  rw [lk_pt]
  by_cases h : k = j
  · rw [if_pos h, if_pos h]; rfl
  · rw [if_neg h, if_neg h]
omit [Lams] in
theorem call_lenDR {X : Cx} : CallR X (.builtin "len") (fun xs H Q => ∃ a kvs, xs = [V.ref a] ∧ Rd H a (.dK kvs) ∧ Q (.int kvs.length) H) := by
  intro pins s σ H xs us Q I r h
  obtain ⟨a, kvs, rfl, ha, q⟩ := h
  obtain ⟨u, rfl, ru⟩ := vals1 r
  cases ru
  exact d_len I ha fun t s' I' => ⟨.int kvs.length, H, I', ⟨t, rfl⟩, q⟩
theorem ev_lenD {κ : Type} [DecidableEq κ] [KeyT κ] {kvs : List (κ × α)} (hm : X.mg "len" = none) (ha : EvF X a σ F M (rdD M r) kvs) (hg : Gl X "len" := by rfl) (he : starEach [a] X.env = (false, eval a X.env) :: starEach [] X.env := by rfl) (hpl : (backTo pos (starEach [] X.env)).any (·.1) = false := by rfl) :
    EvF X (.Call (.Name "len" p) [a] [] pos) σ F M iR (kvs.length : Int) :=
  fun F1 H1 s w Q q => we_of (pe_callB call_lenDR hg hm PySem.boot_len (pa_cons (pe_w a) pa_nil he) (he := he) (hpl := hpl)) (ha F1 H1 s w _ fun F2 H2 v s2 w2 ⟨l, ks, e, hl, hk⟩ =>
    ⟨l, ks, by rw [e], rdD.rd w2 hl, q F2 H2 _ s2 w2 (show iR F2 (V.int (ks.length : Int)) (kvs.length : Int) from by rw [hk.len]; rfl)⟩)
abbrev srtT {α : Type} (r : Rep α) [t : TupI r] (xs : List α) : List α := srtK t.key xs
theorem ev_lenT2 {x : α × β} (hm : X.mg "len" = none) (ha : EvF X a σ F M (t2R r1 r2) x) (hg : Gl X "len" := by rfl) (he : starEach [a] X.env = (false, eval a X.env) :: starEach [] X.env := by rfl) (hpl : (backTo pos (starEach [] X.env)).any (·.1) = false := by rfl) :
    EvF X (.Call (.Name "len" p) [a] [] pos) σ F M iR (2 : Int) :=
  fun F1 H1 s w Q q => we_of (pe_callB call_len_seq hg hm PySem.boot_len (pa_cons (pe_w a) pa_nil he) (he := he) (hpl := hpl)) (ha F1 H1 s w _ fun F2 H2 v s2 w2 ⟨l, u, z, e, hl, h2⟩ =>
    ⟨l, [u, z], by rw [e], .inr (SqT.of (w2.f _ _ hl)), q F2 H2 _ s2 w2 rfl⟩)
theorem ev_lenT3 {x : α × β × γ} (hm : X.mg "len" = none) (ha : EvF X a σ F M (t3R r1 r2 r3) x) (hg : Gl X "len" := by rfl) (he : starEach [a] X.env = (false, eval a X.env) :: starEach [] X.env := by rfl) (hpl : (backTo pos (starEach [] X.env)).any (·.1) = false := by rfl) :
    EvF X (.Call (.Name "len" p) [a] [] pos) σ F M iR (3 : Int) :=
  fun F1 H1 s w Q q => we_of (pe_callB call_len_seq hg hm PySem.boot_len (pa_cons (pe_w a) pa_nil he) (he := he) (hpl := hpl)) (ha F1 H1 s w _ fun F2 H2 v s2 w2 ⟨l, u, z, t, e, hl, h2⟩ =>
    ⟨l, [u, z, t], by rw [e], .inr (SqT.of (w2.f _ _ hl)), q F2 H2 _ s2 w2 rfl⟩)
/-! unpacking -/
abbrev Lc (X : Cx) (n : Str) : Prop := X.fn n = true ∨ X.env.scope.names.lookup n = some .local
theorem ss_un2 (i j : Nat) {ki} {x : α × β} (he : EvF X e σ F M (t2R r1 r2) x) (w : Own F M H)
    (k : ∀ F2 H2 u z, Same F F2 → Own F2 M H2 → r1 F2 u x.1 → r2 F2 z x.2 → WSs X rest D (List.set (List.set σ i (some u)) j (some z)) H2)
    (hN : X.N.Nodup) (hi : X.N[i]? = some n := by rfl) (hj : X.N[j]? = some n2 := by rfl) (hx : Loc X.env.scope n := by first | exact Or.inl rfl | exact Or.inr rfl) (hx2 : Loc X.env.scope n2 := by first | exact Or.inl rfl | exact Or.inr rfl) (hf : Lc X n := by first | exact .inl rfl | exact .inr rfl) (hf2 : Lc X n2 := by first | exact .inl rfl | exact .inr rfl) (hc : X.calm = true := by rfl)
    (z1 : swapsWithSole [.Tuple [.Name n p, .Name n2 p2] ki p3] e pos.line X.env = pure false := by rfl) (z2 : swappedStores [.Tuple [.Name n p, .Name n2 p2] ki p3] e X.env = pure none := by rfl) (z3 : (assignEach [.Tuple [.Name n p, .Name n2 p2] ki p3] X.env).map (·.2) = [assign (.Tuple [.Name n p, .Name n2 p2] ki p3) X.env] := by rfl)
    (q1 : (assignEach [.Name n p, .Name n2 p2] X.env).map (·.2) = assign (.Name n p) X.env :: (assignEach [.Name n2 p2] X.env).map (·.2) := by rfl) (q2 : (assignEach [.Name n2 p2] X.env).map (·.2) = assign (.Name n2 p2) X.env :: (assignEach [] X.env).map (·.2) := by rfl)
    (q3 : (assignEach [.Name n p, .Name n2 p2] X.env).length = 2 := by rfl) (q4 : (assignEach [.Name n p, .Name n2 p2] X.env).findIdx? (·.1) = none := by rfl) :
    WSs X (.Assign [.Tuple [.Name n p, .Name n2 p2] ki p3] e pos :: rest) D σ H :=
  wss_cons (ws_of (ps_asg (pe_w e) (pg_tup hc (pgs_cons (pg_name hN hi hx hf) (pgs_cons (pg_name hN hj hx2 hf2) pgs_nil q2) q1) q3 q4) z1 z2 z3) (he F H (Same.refl _) w _ fun F2 H2 v s2 w2 ⟨l, u, z, e, hl, h1, h2⟩ =>
    ⟨l, _, e, SqT.of (w2.f _ _ hl), rfl, u, _, rfl, z, _, rfl, rfl, k F2 H2 u z s2 w2 h1 h2⟩))
theorem ss_un3 (i j m : Nat) {ki} {x : α × β × γ} (he : EvF X e σ F M (t3R r1 r2 r3) x) (w : Own F M H)
    (k : ∀ F2 H2 u z t, Same F F2 → Own F2 M H2 → r1 F2 u x.1 → r2 F2 z x.2.1 → r3 F2 t x.2.2 → WSs X rest D (List.set (List.set (List.set σ i (some u)) j (some z)) m (some t)) H2)
    (hN : X.N.Nodup) (hi : X.N[i]? = some n := by rfl) (hj : X.N[j]? = some n2 := by rfl) (hm : X.N[m]? = some n3 := by rfl) (hx : Loc X.env.scope n := by first | exact Or.inl rfl | exact Or.inr rfl) (hx2 : Loc X.env.scope n2 := by first | exact Or.inl rfl | exact Or.inr rfl) (hx3 : Loc X.env.scope n3 := by first | exact Or.inl rfl | exact Or.inr rfl) (hf : Lc X n := by first | exact .inl rfl | exact .inr rfl) (hf2 : Lc X n2 := by first | exact .inl rfl | exact .inr rfl) (hf3 : Lc X n3 := by first | exact .inl rfl | exact .inr rfl) (hc : X.calm = true := by rfl)
    (z1 : swapsWithSole [.Tuple [.Name n p, .Name n2 p2, .Name n3 p3] ki p4] e pos.line X.env = pure false := by rfl) (z2 : swappedStores [.Tuple [.Name n p, .Name n2 p2, .Name n3 p3] ki p4] e X.env = pure none := by rfl) (z3 : (assignEach [.Tuple [.Name n p, .Name n2 p2, .Name n3 p3] ki p4] X.env).map (·.2) = [assign (.Tuple [.Name n p, .Name n2 p2, .Name n3 p3] ki p4) X.env] := by rfl)
    (q1 : (assignEach [.Name n p, .Name n2 p2, .Name n3 p3] X.env).map (·.2) = assign (.Name n p) X.env :: (assignEach [.Name n2 p2, .Name n3 p3] X.env).map (·.2) := by rfl) (q2 : (assignEach [.Name n2 p2, .Name n3 p3] X.env).map (·.2) = assign (.Name n2 p2) X.env :: (assignEach [.Name n3 p3] X.env).map (·.2) := by rfl) (q2' : (assignEach [.Name n3 p3] X.env).map (·.2) = assign (.Name n3 p3) X.env :: (assignEach [] X.env).map (·.2) := by rfl)
    (q3 : (assignEach [.Name n p, .Name n2 p2, .Name n3 p3] X.env).length = 3 := by rfl) (q4 : (assignEach [.Name n p, .Name n2 p2, .Name n3 p3] X.env).findIdx? (·.1) = none := by rfl) :
    WSs X (.Assign [.Tuple [.Name n p, .Name n2 p2, .Name n3 p3] ki p4] e pos :: rest) D σ H :=
  wss_cons (ws_of (ps_asg (pe_w e) (pg_tup hc (pgs_cons (pg_name hN hi hx hf) (pgs_cons (pg_name hN hj hx2 hf2) (pgs_cons (pg_name hN hm hx3 hf3) pgs_nil q2') q2) q1) q3 q4) z1 z2 z3) (he F H (Same.refl _) w _ fun F2 H2 v s2 w2 ⟨l, u, z, t, e, hl, h1, h2, h3⟩ =>
    ⟨l, _, e, SqT.of (w2.f _ _ hl), rfl, u, _, rfl, z, _, rfl, t, _, rfl, rfl, k F2 H2 u z t s2 w2 h1 h2 h3⟩))
/-- .. of a list of two, three -/
theorem ss_ul2 (i j : Nat) {ki} {x : α × β} (he : EvF X e σ F M (h2R r1 r2) x) (w : Own F M H)
    (k : ∀ F2 H2 u z, Same F F2 → Own F2 M H2 → r1 F2 u x.1 → r2 F2 z x.2 → WSs X rest D (List.set (List.set σ i (some u)) j (some z)) H2)
    (hN : X.N.Nodup) (hi : X.N[i]? = some n := by rfl) (hj : X.N[j]? = some n2 := by rfl) (hx : Loc X.env.scope n := by first | exact Or.inl rfl | exact Or.inr rfl) (hx2 : Loc X.env.scope n2 := by first | exact Or.inl rfl | exact Or.inr rfl) (hf : Lc X n := by first | exact .inl rfl | exact .inr rfl) (hf2 : Lc X n2 := by first | exact .inl rfl | exact .inr rfl) (hc : X.calm = true := by rfl)
    (z1 : swapsWithSole [.Tuple [.Name n p, .Name n2 p2] ki p3] e pos.line X.env = pure false := by rfl) (z2 : swappedStores [.Tuple [.Name n p, .Name n2 p2] ki p3] e X.env = pure none := by rfl) (z3 : (assignEach [.Tuple [.Name n p, .Name n2 p2] ki p3] X.env).map (·.2) = [assign (.Tuple [.Name n p, .Name n2 p2] ki p3) X.env] := by rfl)
    (q1 : (assignEach [.Name n p, .Name n2 p2] X.env).map (·.2) = assign (.Name n p) X.env :: (assignEach [.Name n2 p2] X.env).map (·.2) := by rfl) (q2 : (assignEach [.Name n2 p2] X.env).map (·.2) = assign (.Name n2 p2) X.env :: (assignEach [] X.env).map (·.2) := by rfl)
    (q3 : (assignEach [.Name n p, .Name n2 p2] X.env).length = 2 := by rfl) (q4 : (assignEach [.Name n p, .Name n2 p2] X.env).findIdx? (·.1) = none := by rfl) :
    WSs X (.Assign [.Tuple [.Name n p, .Name n2 p2] ki p3] e pos :: rest) D σ H :=
  wss_cons (ws_of (ps_asg (pe_w e) (pg_unl hc (pgs_cons (pg_name hN hi hx hf) (pgs_cons (pg_name hN hj hx2 hf2) pgs_nil q2) q1) q3 q4) z1 z2 z3) (he F H (Same.refl _) w _ fun F2 H2 v s2 w2 ⟨l, u, z, e, hl, h1, h2⟩ =>
    ⟨l, _, e, SqL.of (w2.f _ _ hl), rfl, u, _, rfl, z, _, rfl, rfl, k F2 H2 u z s2 w2 h1 h2⟩))
theorem ss_ul3 (i j m : Nat) {ki} {x : α × β × γ} (he : EvF X e σ F M (h3R r1 r2 r3) x) (w : Own F M H)
    (k : ∀ F2 H2 u z t, Same F F2 → Own F2 M H2 → r1 F2 u x.1 → r2 F2 z x.2.1 → r3 F2 t x.2.2 → WSs X rest D (List.set (List.set (List.set σ i (some u)) j (some z)) m (some t)) H2)
    (hN : X.N.Nodup) (hi : X.N[i]? = some n := by rfl) (hj : X.N[j]? = some n2 := by rfl) (hm : X.N[m]? = some n3 := by rfl) (hx : Loc X.env.scope n := by first | exact Or.inl rfl | exact Or.inr rfl) (hx2 : Loc X.env.scope n2 := by first | exact Or.inl rfl | exact Or.inr rfl) (hx3 : Loc X.env.scope n3 := by first | exact Or.inl rfl | exact Or.inr rfl) (hf : Lc X n := by first | exact .inl rfl | exact .inr rfl) (hf2 : Lc X n2 := by first | exact .inl rfl | exact .inr rfl) (hf3 : Lc X n3 := by first | exact .inl rfl | exact .inr rfl) (hc : X.calm = true := by rfl)
    (z1 : swapsWithSole [.Tuple [.Name n p, .Name n2 p2, .Name n3 p3] ki p4] e pos.line X.env = pure false := by rfl) (z2 : swappedStores [.Tuple [.Name n p, .Name n2 p2, .Name n3 p3] ki p4] e X.env = pure none := by rfl) (z3 : (assignEach [.Tuple [.Name n p, .Name n2 p2, .Name n3 p3] ki p4] X.env).map (·.2) = [assign (.Tuple [.Name n p, .Name n2 p2, .Name n3 p3] ki p4) X.env] := by rfl)
    (q1 : (assignEach [.Name n p, .Name n2 p2, .Name n3 p3] X.env).map (·.2) = assign (.Name n p) X.env :: (assignEach [.Name n2 p2, .Name n3 p3] X.env).map (·.2) := by rfl) (q2 : (assignEach [.Name n2 p2, .Name n3 p3] X.env).map (·.2) = assign (.Name n2 p2) X.env :: (assignEach [.Name n3 p3] X.env).map (·.2) := by rfl) (q2' : (assignEach [.Name n3 p3] X.env).map (·.2) = assign (.Name n3 p3) X.env :: (assignEach [] X.env).map (·.2) := by rfl)
    (q3 : (assignEach [.Name n p, .Name n2 p2, .Name n3 p3] X.env).length = 3 := by rfl) (q4 : (assignEach [.Name n p, .Name n2 p2, .Name n3 p3] X.env).findIdx? (·.1) = none := by rfl) :
    WSs X (.Assign [.Tuple [.Name n p, .Name n2 p2, .Name n3 p3] ki p4] e pos :: rest) D σ H :=
  wss_cons (ws_of (ps_asg (pe_w e) (pg_unl hc (pgs_cons (pg_name hN hi hx hf) (pgs_cons (pg_name hN hj hx2 hf2) (pgs_cons (pg_name hN hm hx3 hf3) pgs_nil q2') q2) q1) q3 q4) z1 z2 z3) (he F H (Same.refl _) w _ fun F2 H2 v s2 w2 ⟨l, u, z, t, e, hl, h1, h2, h3⟩ =>
    ⟨l, _, e, SqL.of (w2.f _ _ hl), rfl, u, _, rfl, z, _, rfl, t, _, rfl, rfl, k F2 H2 u z t s2 w2 h1 h2 h3⟩))
/-! what is new since F0 may be spoiled: what stood in F0 stays -/
theorem ss_scrap {F0 : Hp} {o : Expr} {cpos apos : Pos} {xs : List α} {x : δ} (ho : EvF X o σ F M (lNR F0 r) xs) (he : EvF X e σ F M s x) (s0 : Same F0 F) (w : Own F M H) (hz : xs.length < 1000000)
    (k : ∀ H2, Own F0 M H2 → WSs X rest D σ H2)
    (hbase : attributeBase o "append" X.env (eval o X.env) = eval o X.env := by rfl)
    (hfew : ((backTo cpos (starEach [e] X.env)).all (fun x => !x.1) && (backToKw cpos (keywordEach [] X.env)).all (fun x => x.1.isSome)
      && decide ([e].length + ([] : List Keyword).length + (if ([] : List Keyword).isEmpty then 0 else 1) < 30)) = true := by rfl)
    (hline : (apos.endLine == cpos.line) = true := by rfl) (hst : starEach [e] X.env = (false, eval e X.env) :: starEach [] X.env := by rfl) (hplain : (backTo cpos (starEach [] X.env)).any (·.1) = false := by rfl)
    (hsw : swapsWith (.Call (.Attribute o "append" apos) [e] [] cpos) none pos.line X.env = pure false := by rfl) :
    WSs X (.Expr (.Call (.Attribute o "append" apos) [e] [] cpos) pos :: rest) D σ H :=
  wss_cons (ws_of (ps_expr (pe_bm PySem.F.plainAttrs_list PySem.F.slot_list_append PySem.F.type_list_append mt_append (pe_w o) (pa_cons (pe_w e) pa_nil hst) hbase hfew hline hst hplain) hsw)
    (ho F H (Same.refl _) w _ fun F2 H2 v s2 w2 ⟨l, vs, e1, n0, hl, h2⟩ => by
      subst e1
      refine ⟨.inl ⟨rfl, _, SqL.of (w2.f _ _ hl)⟩, he F2 H2 s2 w2 _ fun F3 H3 v3 s3 w3 hv3 => ⟨l, vs, v3, rfl, rfl, w3.f _ _ (s3 _ _ hl), Nat.lt_of_lt_of_le (by rw [h2.len]; exact hz) (by decide), ?_⟩⟩
      have w0 : Own F0 M H3 := w3.lessF (s0.trans (s2.trans s3))
      have hM : M l = none := by
        cases q : M l with
        | none => rfl
        | some x => have := w3.d l x q; rw [s3 _ _ hl] at this; cases this
      exact k _ ⟨same_in w0.f n0, same_in w0.m hM, w0.d, w0.t, tab_put (w3.f _ _ (s3 _ _ hl)) rfl w3.b, w0.u⟩))
end
theorem emod_in {a b : Int} (h : 0 < b) : 0 ≤ a % b ∧ a % b < b := ⟨Int.emod_nonneg _ (by omega), Int.emod_lt_of_pos _ h⟩
theorem nodup_le {α : Type} [DecidableEq α] : ∀ {ys xs : List α}, ys.Nodup → (∀ k ∈ ys, k ∈ xs) → ys.length ≤ xs.length
  | [], _, _, _ => Nat.zero_le _
  | y :: ys, xs, h, s => by
    rw [List.nodup_cons] at h
    have h1 := nodup_le (ys := ys) (xs := xs.erase y) h.2 fun k hk => (List.mem_erase_of_ne (fun q => by subst q; exact h.1 hk)).mpr (s k (List.mem_cons_of_mem _ hk))
    have hy := s y List.mem_cons_self
    rw [List.length_erase_of_mem hy] at h1
    have := List.length_pos_of_mem hy
    simp only [List.length_cons]
    omega
theorem uset_len {xs : List Int} : (uset xs).length ≤ xs.length := nodup_le ((pw_uset xs).imp fun {a b} h => by omega) fun k hk => mem_uset.mp hk
end Y

/-! ### what raises: defs that may let an exception out, try .. except C, raise C(..) -/
namespace Y
open PySem PySem.Spec PyProof.Rows L2
/-- a def's promise: what it gives stands for good; or what it lets out: the class, the exception's dict -/
def FSpX [Lams] {α : Type} (A : AR α) (pre : α → Prop) (R : α → Hp → V → Prop) (Rx : α → Hp → Value → Option Addr → Prop) : Sp := fun vs H Q E => ∃ F M x, A F vs x ∧ pre x ∧ Own F M H ∧
  (∀ F2 H2 v, Same F F2 → Own F2 M H2 → R x F2 v → Q v H2) ∧ ∀ F2 H2 c d, Same F F2 → Own F2 M H2 → Rx x F2 c d → E c d H2
def FSpNX [Lams] {α β : Type} (A : AR α) (pre : α → Prop) (r : Rep β) (R : α → List β → Prop) (Rx : α → Hp → Value → Option Addr → Prop) : Sp := fun vs H Q E => ∃ F M x, A F vs x ∧ pre x ∧ Own F M H ∧
  (∀ F2 H2 l vs ys, Same F F2 → Own F2 M H2 → F2 l = none → M l = none → H2 l = some (.lst vs) → A2 (r F2) vs ys → R x ys → Q (.ref l) H2) ∧ ∀ F2 H2 c d, Same F F2 → Own F2 M H2 → Rx x F2 c d → E c d H2
section
variable [Lams] {X : Cx} {σ : L2.St} {F M H : Hp} {a b c e : Expr} {es : List Expr} {pos p p2 np : Pos} {α β γ δ : Type} {r : Rep α} {s : Rep β} {n : Str} {k : Nat} {f : Addr} {fd : FuncData} {ps : List Str} {rest : List Stmt} {D : Ends}
theorem ev_callX {W : WX} (tk : Takes X W) {A : AR α} {pre : α → Prop} {R : α → Hp → V → Prop} {Rx : α → Hp → Value → Option Addr → Prop} {x : α} (G : FnOk X.prog X.w X.K X.mg X.base (L2.CX X.prog X.w) k f fd ps (FSpX A pre R Rx)) (hr : Room k X.A) (hm : X.mg n = some (.ref f)) (hk : PySem.W.keepIn X.K (.ref f) = true) (hb : Binds X.K fd ps [])
    (ha : EvA X (e :: es) σ F M fun F vs => A F vs x) (hp : pre x) (hx : ∀ F2 H2 c d, Same F F2 → Own F2 M H2 → Rx x F2 c d → W c d σ H2)
    (hg : Gl X n := by rfl) (hdb : (n == ("__debug__" : Str)) = false := by decide) (he : starEach (e :: es) X.env = (false, eval e X.env) :: starEach es X.env := by rfl) (hpl : (backTo pos (starEach es X.env)).any (·.1) = false := by rfl) :
    Ev X (.Call (.Name n p) (e :: es) [] pos) σ F M (R x) :=
  fun F1 H1 s w Q q => we_of (pe_callS G hr hg hm hk hb (fun σ => passAt tk σ) (pa_w (e :: es)) hdb he hpl) (ha F1 H1 s w _ fun F2 H2 vs s2 w2 hv =>
    ⟨F2, M, x, hv, hp, w2, fun F3 H3 v s3 w3 h => q F3 H3 v (s2.trans s3) w3 h, fun F3 H3 c d s3 w3 h => hx F3 H3 c d ((s.trans s2).trans s3) w3 h⟩)
theorem ev_callNX {W : WX} (tk : Takes X W) {A : AR α} {pre : α → Prop} {R : α → List β → Prop} {Rx : α → Hp → Value → Option Addr → Prop} {x : α} (G : FnOk X.prog X.w X.K X.mg X.base (L2.CX X.prog X.w) k f fd ps (FSpNX A pre s R Rx)) (hr : Room k X.A) (hm : X.mg n = some (.ref f)) (hk : PySem.W.keepIn X.K (.ref f) = true) (hb : Binds X.K fd ps [])
    (ha : EvA X (e :: es) σ F M fun F vs => A F vs x) (hp : pre x) (hx : ∀ F2 H2 c d, Same F F2 → Own F2 M H2 → Rx x F2 c d → W c d σ H2)
    (hg : Gl X n := by rfl) (hdb : (n == ("__debug__" : Str)) = false := by decide) (he : starEach (e :: es) X.env = (false, eval e X.env) :: starEach es X.env := by rfl) (hpl : (backTo pos (starEach es X.env)).any (·.1) = false := by rfl) :
    EvNP X (.Call (.Name n p) (e :: es) [] pos) σ F M s (R x) :=
  fun F1 H1 s1 w Q q => we_of (pe_callS G hr hg hm hk hb (fun σ => passAt tk σ) (pa_w (e :: es)) hdb he hpl) (ha F1 H1 s1 w _ fun F2 H2 vs s2 w2 hv =>
    ⟨F2, M, x, hv, hp, w2, fun F3 H3 l vs ys s3 w3 h1 h2 h3 h4 h5 => q F3 H3 l vs ys (s2.trans s3) w3 h1 h2 h3 h4 h5, fun F3 H3 c d s3 w3 h => hx F3 H3 c d ((s1.trans s2).trans s3) w3 h⟩)
omit [Lams] in
/-- try: body except x: suite, no name -/
theorem ss_try {x : Str} {cv : Value} {Wout : WX} {body suite : List Stmt} {b₀ : Stmt} {pos' : Pos} (hs : X.stack = X.env :: X.outer) (hf : X.env.frame = some X.env.locals) (hc : Names X x cv) (tk : Takes X Wout)
    (hb : ∀ (W : WX) (pn : List (Addr × Obj)) (xe : Value → Shared → Prop), Takes (X.tr pn xe) W → PassesOwn (model X.prog X.w) X.A X.env xe →
      (∀ cls d σ' H', (∃ b, PySem.W.exmOne X.K cls cv = some b ∧ (b = true → ∀ a oe pn, H' a = none → Zc cls d oe → (∃ vs, oe.data = .fields vs) → WSs (X.suite a ((a, oe) :: pn)) (b₀ :: suite) (thn X rest D) σ' H') ∧ (b = false → Wout cls d σ' H')) → W cls d σ' H') →
      WSs (X.tr pn xe) body (thn X rest D) σ H) :
    WSs X (.Try body [.ExceptHandler (some (.Name x np)) none (b₀ :: suite) pos'] [] [] pos :: rest) D σ H :=
  wss_cons (ws_of (ps_try_only (tb := fun W D' σ' H' => ∀ pn xe, Takes (X.tr pn xe) W → PassesOwn (model X.prog X.w) X.A X.env xe → WSs (X.tr pn xe) body D' σ' H')
    (ts := fun a cls d D' σ' H' => ∀ oe pn, Zc cls d oe → (∃ vs, oe.data = .fields vs) → WSs (X.suite a ((a, oe) :: pn)) (b₀ :: suite) D' σ' H') hs hf hc tk
    (fun W pn xe t po => ⟨fun pins s σ' H' D' I h => h pn xe t po pins s I⟩) (fun a oe cls d pn hz hv => ⟨fun pins s σ' H' D' I h => h oe pn hz hv pins s I⟩))
    fun pn xe t po => hb _ pn xe t po fun cls d σ' H' ⟨b, h1, h2, h3⟩ => ⟨b, h1, fun q a n oe pn hz hv => h2 q a oe pn n hz hv, h3⟩)
omit [Lams] in
/-- raise C(..) -/
theorem ss_raise {W : WX} {t : L2.St → Hp → XK → Prop} (hc : X.calm = true) (tk : Takes X W) (hm : PMk X e t) (h : t σ H fun cls d H' => W cls d σ H') : WSs X (.Raise (some e) none pos :: rest) D σ H :=
  wss_cons (ws_of (ps_raise hc tk hm) h)
/-- a class that was made of another one has no __init__ of its own: B.__init__(self, ..), B that class -/
structure BaseC (K : PySem.W.Frag) (B : Addr) (mc : Value) : Prop where
  sp : PySem.W.specialIn K (.ref B) "__getattribute__" = some (some (.builtin "type.__getattribute__"))
  rd : PySem.W.readsIn K B mc = true
  fd : PySem.W.findCls K (.ref B) mc "__init__" = some (.val (.builtin "ValueError.__init__"))
omit [Lams] in
theorem pe_binit {B : Addr} {mc : Value} {x : Str} {ta : TA} {p1 : Pos} {pl : Sem Bool} (T : BaseC X.K B mc) (hg : Gl X x) (hm : X.mg x = some (.ref B)) (ha : PA X (e :: es) ta) (hdb : (x == ("__debug__" : Str)) = false := by decide)
    (hc : eval (.Call (.Attribute (.Name x p1) "__init__" p2) (e :: es) [] pos) X.env = (do
      let ov ← eval (.Name x p1) X.env
      standAt p2.atName
      let (f, first) ← holding [ov] (getMethod ov "__init__" pl)
      callWith pos f first (backTo pos (starEach (e :: es) X.env)) (backToKw pos (keywordEach [] X.env))) := by rfl)
    (he : starEach (e :: es) X.env = (false, eval e X.env) :: starEach es X.env := by rfl) (hpl : (backTo pos (starEach es X.env)).any (·.1) = false := by rfl) :
    PE X (.Call (.Attribute (.Name x p1) "__init__" p2) (e :: es) [] pos) (tVeI X.K ta) := by
  refine ⟨fun pins s σ H Q I h => ?_⟩
  refine PySem.W.methodCall_KW (ld_glob I hg hm ?_ hdb) hc
  refine PySem.W.method_cls I.kIn T.sp (PySem.W.cls_value I.kIn T.rd T.fd rfl ?_)
  show wpAny _ _ (callWith pos (Value.builtin "ValueError.__init__") [] (backTo pos (starEach (e :: es) X.env)) []) _ _ _
  refine PyProof.Rows.callWith_method1 (L2.thn (ha.run pos pins _ σ H _ (I.tok _) h) fun us s1 ⟨vs, H1, I1, r1, a, C, ws, ev, hl, T, ea, q⟩ => ?_) he hpl
  subst ev
  cases r1 with
  | @cons _ u0 _ ur ra rw' =>
    obtain rfl : u0 = Value.ref a := ra
    have hlen : ur.length ≤ sizeLine := by
      rw [← Paired.length rw', sizeLine_eq]
      omega
    exact oinit_ok T I1 ea hlen fun s' J => ⟨.non, H1, J, rfl, q⟩
end
section
variable {P : Program} {w : World} {K : PySem.W.Frag} {mg : Str → Option Value} {base : Heap}
/-- a def that may raise holds its promise -/
theorem ok_defX {x qual : Str} {st : Stmt} {f : Addr} {fd : FuncData} {N ps : List Str} {k : Nat} {sp : Sp} (F : Fun K x qual st f fd) (S : FnScope N ps (defScope st)) (len : ∀ vs H Q E, sp vs H Q E → vs.length = ps.length)
    (hbody : ∀ (cdv : Value) (A : Around) (outer : List Env) (s : Shared) (H : Hp) (vs : List V) (Q : VK) (E : XK), Room k (A.deeper (envOfC qual (defScope st) s.heap.objs.size f cdv)) → sp vs H Q E →
      Takes (cxOf (L2.CX P w) P w K mg base N qual (defScope st) f cdv A outer s H E) (fun cls d _ H => E cls d H) →
      WSs (cxOf (L2.CX P w) P w K mg base N qual (defScope st) f cdv A outer s H E) (defBody st) { nx := fun _ H' => Q .non H', rt := Q } (start N vs) H) : FnOk P w K mg base (L2.CX P w) (k + 1) f fd ps sp :=
  F.okX S len fun cdv A outer s H vs Q E hr h => ⟨_, pss_w _, hbody cdv A outer s H vs Q E hr h (takes_of rfl rfl rfl rfl)⟩
end
end Y

/-! ### range downwards, while, classes of exceptions with fields -/
namespace Y
open PySem PySem.Spec PyProof.Rows L2
/-- i, i - 1, .., so many -/
def rngD (i : Int) (n : Nat) : List Int := (List.range n).map fun (k : Nat) => i - k
theorem rngD_len {i : Int} {n : Nat} : (rngD i n).length = n := by unfold rngD; simp
theorem rngD_get {lo : Int} {n i : Nat} : (rngD lo n)[i]? = if i < n then some (lo - (i : Int)) else none := by
  unfold rngD
  rw [List.getElem?_map]
  by_cases h : i < n
  · rw [if_pos h, List.getElem?_range h]; rfl
  · rw [if_neg h, List.getElem?_eq_none (by simpa using h)]; rfl
theorem rngD_at {lo : Int} {n i : Nat} {k : Int} (h : (rngD lo n)[i]? = some k) : i < n ∧ k = lo - (i : Int) := by
  rw [rngD_get] at h
  by_cases hh : i < n
  · rw [if_pos hh] at h; cases h; exact ⟨hh, rfl⟩
  · rw [if_neg hh] at h; cases h
theorem yields_d [Lams] {F : Hp} {lo : Int} {n : Nat} : Yields F (Itc lo (-1) n) iR (rngD lo n) := fun i F3 M3 H3 s3 w3 =>
  ⟨fun hi => by rw [rngD_len] at hi; exact hi, fun x hx => by
    rw [rngD_get] at hx
    by_cases h : i < n
    · rw [if_pos h] at hx
      cases hx
      refine ⟨h, fun v H' hy => ?_⟩
      obtain ⟨rfl, rfl⟩ := hy
      exact ⟨F3, Same.refl _, w3, by show V.int _ = V.int _; congr 1; omega⟩
    · rw [if_neg h] at hx; cases hx⟩
section
variable [Lams] {X : Cx} {σ : L2.St} {F M H : Hp} {a b c e : Expr} {es : List Expr} {pos p p2 np : Pos} {α β γ δ : Type} {r : Rep α} {s : Rep β} {n : Str} {k : Nat} {f : Addr} {fd : FuncData} {ps : List Str} {rest : List Stmt} {D : Ends}
/-- range(i, j, -1) -/
theorem ei_range3d {tg : Expr} {i j : Int} {q1 q2 : Pos} {kk} (hm : X.mg "range" = none) (ha : EvF X a σ F M iR i) (hb : EvF X b σ F M iR j) (hj : -(2 ^ 62) ≤ i ∧ i < 2 ^ 62 ∧ -(2 ^ 62) ≤ j ∧ j < 2 ^ 62) (hg : Gl X "range" := by rfl)
    (hs : starEach [a, b, .UnaryOp .USub (.Constant (.int 1) kk q1) q2] X.env = (false, eval a X.env) :: starEach [b, .UnaryOp .USub (.Constant (.int 1) kk q1) q2] X.env := by rfl) (hs2 : starEach [b, .UnaryOp .USub (.Constant (.int 1) kk q1) q2] X.env = (false, eval b X.env) :: starEach [.UnaryOp .USub (.Constant (.int 1) kk q1) q2] X.env := by rfl)
    (hs3 : starEach [.UnaryOp .USub (.Constant (.int 1) kk q1) q2] X.env = (false, eval (.UnaryOp .USub (.Constant (.int 1) kk q1) q2) X.env) :: starEach [] X.env := by rfl) (hpl : (backTo pos (starEach [b, .UnaryOp .USub (.Constant (.int 1) kk q1) q2] X.env)).any (·.1) = false := by rfl) :
    EvI X tg (.Call (.Name "range" p) [a, b, .UnaryOp .USub (.Constant (.int 1) kk q1) q2] [] pos) σ F M iR (rngD i (i - j).toNat) :=
  fun F1 H1 s w R q => wi_of (pi_range3 hg hm (pa_cons (pe_w a) (pa_cons (pe_w b) (pa_cons (pe_w _) pa_nil hs3) hs2) hs) hs hpl) (ha F1 H1 s w _ fun F2 H2 v s2 w2 hv => hb F2 H2 (s.trans s2) w2 _ fun F3 H3 u s3 w3 hu =>
    ev_neg ev_int F3 H3 ((s.trans s2).trans s3) w3 _ fun F4 H4 z s4 w4 hz =>
    ⟨i, j, -1, _, by rw [show v = V.int i from hv, show u = V.int j from hu, show z = V.int (-1) from hz], RgC.neg hj.1 hj.2.1 hj.2.2.1 hj.2.2.2, q F4 H4 _ ((s2.trans s3).trans s4) w4 yields_d⟩)
/-- while c: body; I m tells the state, m what falls -/
theorem ss_while {body : List Stmt} (I : Nat → Hp → Hp → L2.St → Prop) (m0 : Nat) (w : Own F M H) (h0 : I m0 F M σ)
    (hs : ∀ m F1 M1 H1 σ1, Same F F1 → Own F1 M1 H1 → I m F1 M1 σ1 → ∃ kb : Bool, Bx X c σ1 F1 M1 kb ∧
      (kb = true → ∀ H2, Own F1 M1 H2 → WSs X body (lpe X rest D fun σ' H' => ∃ F2 M2, Same F1 F2 ∧ Own F2 M2 H' ∧ ∃ m', m' < m ∧ I m' F2 M2 σ') σ1 H2) ∧ (kb = false → ∀ H2, Own F1 M1 H2 → WSs X rest D σ1 H2))
    (hp : PassesOwn (model X.prog X.w) X.A X.env X.xe) : WSs X (.While c body [] pos :: rest) D σ H := by
  refine wss_cons (ws_of (ps_while hp (pt_w c) (pss_w body)) ⟨fun m σ' H' => ∃ F1 M1, Same F F1 ∧ Own F1 M1 H' ∧ I m F1 M1 σ', ⟨m0, F, M, Same.refl _, w, h0⟩, ?_⟩)
  rintro m σ1 H1 ⟨F1, M1, s1, w1, hI⟩
  obtain ⟨kb, hc, ht, hf⟩ := hs m F1 M1 H1 σ1 s1 w1 hI
  refine hc.2 F1 H1 (Same.refl _) w1 _ fun F2 H2 s2 w2 => ?_
  have w2' := w2.lessF s2
  cases kb with
  | true =>
    rw [if_pos rfl]
    refine ⟨fun σ' H' => ∃ F2 M2, Same F1 F2 ∧ Own F2 M2 H' ∧ ∃ m', m' < m ∧ I m' F2 M2 σ', ?_, ht rfl H2 w2'⟩
    rintro σ' H' ⟨F3, M3, s3, w3, m', hlt, hI'⟩
    exact ⟨m', hlt, F3, M3, s1.trans s3, w3, hI'⟩
  | false =>
    rw [if_neg Bool.false_ne_true]
    exact hf rfl H2 w2'
/-- what an own __init__ that stores its arguments leaves of the exception at a -/
def spInit (K : PySem.W.Frag) (C : Addr) (fs : List Str) : Sp := fun vs H Q _ => ∃ a ws, vs = .ref a :: ws ∧ ws.length = fs.length ∧ OexC K C ∧ H a = some (exo a C none) ∧
  ∀ H2 d, H d = none → d ≠ a → H2 a = some (exo a C (some d)) → H2 d = some (exd d (fs.zip ws).reverse) → (∀ b, b ≠ a → b ≠ d → H2 b = H b) → Q .non H2
theorem ss_raiseI {W : WX} {x : Str} {C fI : Addr} {fs : List Str} {Φ : Hp → List V → Prop} (tk : Takes X W) (T : OexC X.K C) (iC : PySem.W.findIn X.K (.ref C) "__init__" = some (some (.ref fI))) (tI : PySem.W.typeIn X.K (.ref fI) = some (.type "function"))
    (G : FnOk X.prog X.w X.K X.mg X.base CX0 k fI fd ps (spInit X.K C fs)) (hr : Room (k + 1) X.A) (hb : Binds X.K fd ps []) (gC : X.mg x = some (.ref C)) (ha : EvA X (e :: es) σ F M Φ) (w : Own F M H) (hlen : ∀ F vs, Φ F vs → vs.length = fs.length) (hfs : fs.length ≤ 20)
    (h : ∀ F2 F3 H2 d vs, Same F F2 → Same F2 F3 → Own F3 M H2 → Φ F2 vs → F3 d = some (.xd (fs.zip vs).reverse) → W (.ref C) (some d) σ H2)
    (hg : Gl X x := by rfl) (hc : X.calm = true := by rfl) (hdb : (x == ("__debug__" : Str)) = false := by decide) (he : starEach (e :: es) X.env = (false, eval e X.env) :: starEach es X.env := by rfl) (hpl : (backTo pos (starEach es X.env)).any (·.1) = false := by rfl) :
    WSs X (.Raise (some (.Call (.Name x p) (e :: es) [] pos)) none p2 :: rest) D σ H :=
  ss_raise hc tk (pmk_oex T iC tI G hr hb .nil pass0 hg gC (pa_w (e :: es)) hdb he hpl) (ha F H (Same.refl _) w _ fun F2 H2 vs s2 w2 hv => by
    have hl := hlen F2 vs hv
    refine ⟨by omega, fun a na => ⟨a, vs, by rw [List.append_nil], hl, T, upd_same, fun H3 d hd hda ea ed hrest => ⟨rfl, d, _, ea, ed, ?_, ?_⟩⟩⟩
    · rw [upd_ne hda] at hd; exact hd
    · rw [upd_ne hda] at hd
      have e : upd (L2.del H3 a) d (.xd (fs.zip vs).reverse) = upd H2 d (.xd (fs.zip vs).reverse) := by
        funext b
        by_cases hbd : b = d
        · subst hbd; rw [upd_same, upd_same]
        · rw [upd_ne hbd, upd_ne hbd]
          by_cases hba : b = a
          · subst hba; rw [L2.del_same, na]
          · rw [L2.del_ne hba, hrest b hba hbd, upd_ne hba]
      rw [e]
      exact h F2 _ _ d vs s2 (same_new (w2.noF hd)) (w2.newF hd) hv upd_same)
/-! the walk of such an __init__ -/
omit [Lams] in
theorem ss_binit {B : Addr} {mc : Value} {x : Str} {p1 : Pos} {pl : Sem Bool} {Φ : Hp → List V → Prop} {C a0 : Addr} (T : BaseC X.K B mc) (hm : X.mg x = some (.ref B)) (hT : OexC X.K C) {t : TA} (ha : PA X (e :: es) t)
    (h : t σ H fun vs H1 => H1 = H ∧ ∃ ws, vs = .ref a0 :: ws ∧ ws.length ≤ 1000) (hH : H a0 = some (exo a0 C none)) (k : WSs X rest D σ H) (hg : Gl X x := by rfl) (hdb : (x == ("__debug__" : Str)) = false := by decide)
    (hc : eval (.Call (.Attribute (.Name x p1) "__init__" p2) (e :: es) [] pos) X.env = (do
      let ov ← eval (.Name x p1) X.env
      standAt p2.atName
      let (f, first) ← holding [ov] (getMethod ov "__init__" pl)
      callWith pos f first (backTo pos (starEach (e :: es) X.env)) (backToKw pos (keywordEach [] X.env))) := by rfl)
    (he : starEach (e :: es) X.env = (false, eval e X.env) :: starEach es X.env := by rfl) (hpl : (backTo pos (starEach es X.env)).any (·.1) = false := by rfl)
    (hs : swapsWith (.Call (.Attribute (.Name x p1) "__init__" p2) (e :: es) [] pos) none np.line X.env = pure false := by rfl)
    (mono : ∀ Q Q' : List V → Hp → Prop, (∀ vs H1, Q vs H1 → Q' vs H1) → t σ H Q → t σ H Q') :
    WSs X (.Expr (.Call (.Attribute (.Name x p1) "__init__" p2) (e :: es) [] pos) np :: rest) D σ H :=
  wss_cons (ws_of (ps_expr (pe_binit T hg hm ha hdb hc he hpl) hs) (mono _ _ (fun vs H1 ⟨e1, ws, e2, hl⟩ => by
    subst e1
    exact ⟨a0, C, ws, e2, hl, hT, hH, k⟩) h))
end
section
variable [Lams] {X : Cx} {σ : L2.St} {F M H : Hp} {a b c e : Expr} {pos p p2 p3 p4 : Pos} {α β γ δ : Type} {r : Rep α} {r1 : Rep α} {r2 : Rep β} {r3 : Rep γ} {n n2 n3 : Str} {rest : List Stmt} {D : Ends}
theorem ss_ul3P (i j m : Nat) {ki} {P : α × β × γ → Prop} (he : Ev X e σ F M fun F v => ∃ x, h3R r1 r2 r3 F v x ∧ P x) (w : Own F M H)
    (k : ∀ F2 H2 u z t x, Same F F2 → Own F2 M H2 → r1 F2 u x.1 → r2 F2 z x.2.1 → r3 F2 t x.2.2 → P x → WSs X rest D (List.set (List.set (List.set σ i (some u)) j (some z)) m (some t)) H2)
    (hN : X.N.Nodup) (hi : X.N[i]? = some n := by rfl) (hj : X.N[j]? = some n2 := by rfl) (hm : X.N[m]? = some n3 := by rfl) (hx : Loc X.env.scope n := by first | exact Or.inl rfl | exact Or.inr rfl) (hx2 : Loc X.env.scope n2 := by first | exact Or.inl rfl | exact Or.inr rfl) (hx3 : Loc X.env.scope n3 := by first | exact Or.inl rfl | exact Or.inr rfl) (hf : Lc X n := by first | exact .inl rfl | exact .inr rfl) (hf2 : Lc X n2 := by first | exact .inl rfl | exact .inr rfl) (hf3 : Lc X n3 := by first | exact .inl rfl | exact .inr rfl) (hc : X.calm = true := by rfl)
    (z1 : swapsWithSole [.Tuple [.Name n p, .Name n2 p2, .Name n3 p3] ki p4] e pos.line X.env = pure false := by rfl) (z2 : swappedStores [.Tuple [.Name n p, .Name n2 p2, .Name n3 p3] ki p4] e X.env = pure none := by rfl) (z3 : (assignEach [.Tuple [.Name n p, .Name n2 p2, .Name n3 p3] ki p4] X.env).map (·.2) = [assign (.Tuple [.Name n p, .Name n2 p2, .Name n3 p3] ki p4) X.env] := by rfl)
    (q1 : (assignEach [.Name n p, .Name n2 p2, .Name n3 p3] X.env).map (·.2) = assign (.Name n p) X.env :: (assignEach [.Name n2 p2, .Name n3 p3] X.env).map (·.2) := by rfl) (q2 : (assignEach [.Name n2 p2, .Name n3 p3] X.env).map (·.2) = assign (.Name n2 p2) X.env :: (assignEach [.Name n3 p3] X.env).map (·.2) := by rfl) (q2' : (assignEach [.Name n3 p3] X.env).map (·.2) = assign (.Name n3 p3) X.env :: (assignEach [] X.env).map (·.2) := by rfl)
    (q3 : (assignEach [.Name n p, .Name n2 p2, .Name n3 p3] X.env).length = 3 := by rfl) (q4 : (assignEach [.Name n p, .Name n2 p2, .Name n3 p3] X.env).findIdx? (·.1) = none := by rfl) :
    WSs X (.Assign [.Tuple [.Name n p, .Name n2 p2, .Name n3 p3] ki p4] e pos :: rest) D σ H :=
  wss_cons (ws_of (ps_asg (pe_w e) (pg_unl hc (pgs_cons (pg_name hN hi hx hf) (pgs_cons (pg_name hN hj hx2 hf2) (pgs_cons (pg_name hN hm hx3 hf3) pgs_nil q2') q2) q1) q3 q4) z1 z2 z3) (he F H (Same.refl _) w _ fun F2 H2 v s2 w2 ⟨x, ⟨l, u, z, t, e, hl, h1, h2, h3⟩, hP⟩ =>
    ⟨l, _, e, SqL.of (w2.f _ _ hl), rfl, u, _, rfl, z, _, rfl, t, _, rfl, rfl, k F2 H2 u z t x s2 w2 h1 h2 h3 hP⟩))
end
theorem Ev.someO [Lams] {X : Cx} {e : Expr} {σ : L2.St} {F M : Hp} {α : Type} {r : Rep α} {x : α} (h : EvF X e σ F M r x) : EvF X e σ F M (oR r) (some x) := h
theorem oR.get {α : Type} {r : Rep α} {F : Hp} {v : V} {x : Option α} {y : α} (h : oR r F v x) (e : x = some y) : r F v y := by subst e; exact h
instance {α : Type} {r : Rep α} [d : DEq r] : DEq (oR (lR r)) where
  toD := fun x => match x with
    | none => .none
    | some xs => .list (xs.map d.toD)
  dep := d.dep + 1
  dp := fun {K F v x} h => by
    cases x with
    | none => rw [show v = V.non from h]; exact .non
    | some xs => exact DEq.dp (r := lR r) (x := xs) h
  lay := fun {F v x} h => by
    cases x with
    | none => rfl
    | some xs => exact DEq.lay (r := lR r) (x := xs) h
  dpt := fun x => by
    cases x with
    | none => exact Nat.zero_le _
    | some xs => exact DEq.dpt (r := lR r) xs
  eqv := fun x y => by
    cases x with
    | none => cases y <;> simp [PyData.eqv]
    | some xs => cases y with
      | none => simp [PyData.eqv]
      | some ys =>
        rw [Option.some.injEq]
        exact DEq.eqv (r := lR r) xs ys
/-- an exception of the class at R is what «except H» names -/
theorem exm_own {K : PySem.W.Frag} {R S : Addr} (h1 : PySem.W.subIn K (.ref S) (.type "BaseException") = some true) (h2 : PySem.W.isClsIn K S = true) (h3 : PySem.W.typeIn K (.ref S) = some (.type "type")) (h4 : PySem.W.subIn K (.ref R) (.ref S) = some true) : PySem.W.exmOne K (.ref R) (.ref S) = some true := by
  unfold PySem.W.exmOne
  rw [h1, if_pos (by rfl)]
  have h2' : (PySem.W.clsIn K S).isSome = true := h2
  show (if ((PySem.W.clsIn K S).isSome && PySem.W.typeIn K (.ref S) == some (.type "type")) = true then PySem.W.subIn K (.ref R) (.ref S) else none) = some true
  rw [h2', h3, if_pos (by rfl)]
  exact h4
end Y

/-! ### zip of any lengths, [x] * n -/
namespace Y
open PySem PySem.Spec PyProof.Rows L2
theorem A2.rep {α : Type} {p : V → α → Prop} {v : V} {x : α} (h : p v x) : ∀ n : Nat, A2 p (List.replicate n v) (List.replicate n x)
  | 0 => .nil
  | n + 1 => .cons h (A2.rep h n)
section
variable [Lams] {X : Cx} {σ : L2.St} {F M H : Hp} {a b c e : Expr} {pos p p2 kpos : Pos} {α β γ : Type} {r : Rep α} {s : Rep β}
/-- zip(xs, ys), of any lengths -/
theorem ei_zipA {elts : List Expr} {kk : Nat} {tpos : Pos} {xs : List α} {ys : List β} [m : Mono r] [m2 : Mono s] (hm : X.mg "zip" = none) (ha : EvF X a σ F M (rsR X.K r) xs) (hb : EvF X b σ F M (rsR X.K s) ys) (hg : Gl X "zip" := by rfl)
    (hs : starEach [a, b] X.env = (false, eval a X.env) :: starEach [b] X.env := by rfl) (hs2 : starEach [b] X.env = (false, eval b X.env) :: starEach [] X.env := by rfl) (hpl : (backTo pos (starEach [b] X.env)).any (·.1) = false := by rfl) :
    EvI X (.Tuple elts kk tpos) (.Call (.Name "zip" p) [a, b] [] pos) σ F M (t2R r s) (xs.zip ys) :=
  fun F1 H1 s1 w R q => wi_of (pi_zip hg hm (pa_cons (pe_w a) (pa_cons (pe_w b) pa_nil hs2) hs) hs hpl) (ha F1 H1 s1 w _ fun F2 H2 v s2 w2 ⟨l, vs, e, hl, h2⟩ => hb F2 H2 (s1.trans s2) w2 _ fun F3 H3 v' s3 w3 ⟨l', vs', e', hl', h2'⟩ =>
    ⟨l, l', vs, vs', by rw [e, e'], Same.sql w3.f (Same.sql s3 hl), Same.sql w3.f hl', q F3 H3 _ (s2.trans s3) w3 fun i F4 M4 H4 s4 w4 =>
    ⟨fun hi => ⟨vs, vs', Same.sql w4.f (Same.sql (s3.trans s4) hl), Same.sql w4.f (Same.sql s4 hl'), by
        rw [List.length_zip] at hi
        have := h2.len; have := h2'.len
        first | omega | exact .inl (by omega)⟩, fun x hx => by
      rw [List.getElem?_zip_eq_some] at hx
      obtain ⟨u, hu, hr⟩ := h2.get hx.1
      obtain ⟨u', hu', hr'⟩ := h2'.get hx.2
      refine ⟨⟨vs, vs', u, u', Same.sql w4.f (Same.sql (s3.trans s4) hl), Same.sql w4.f (Same.sql s4 hl'), hu, hu'⟩, fun z H' hy => ?_⟩
      obtain ⟨T, x1, x2, rfl, hT, rfl, f1, f2⟩ := hy
      have e1 := f1 vs (Same.sql w4.f (Same.sql (s3.trans s4) hl))
      have e2 := f2 vs' (Same.sql w4.f (Same.sql s4 hl'))
      rw [hu] at e1; cases e1
      rw [hu'] at e2; cases e2
      exact ⟨_, same_new (w4.noF hT), w4.newF hT, T, _, _, rfl, upd_same, Mono.mono ((s3.trans s4).trans (same_new (w4.noF hT))) hr, Mono.mono (s4.trans (same_new (w4.noF hT))) hr'⟩⟩⟩)
/-- xs * n -/
def repL {α : Type} (xs : List α) (n : Int) : List α := (List.replicate n.toNat xs).flatten
omit [Lams] in
theorem repL_one {α : Type} {x : α} {n : Int} : repL [x] n = List.replicate n.toNat x := by
  unfold repL
  generalize n.toNat = k
  induction k with
  | zero => rfl
  | succ k ih => rw [List.replicate_succ, List.flatten_cons, ih, List.replicate_succ]; rfl
omit [Lams] in
theorem A2.reps {α : Type} {p : V → α → Prop} {vs : List V} {xs : List α} (h : A2 p vs xs) : ∀ n : Nat, A2 p (List.replicate n vs).flatten (List.replicate n xs).flatten
  | 0 => .nil
  | n + 1 => by rw [List.replicate_succ, List.flatten_cons, List.replicate_succ, List.flatten_cons]; exact h.app (A2.reps h n)
theorem en_rep {xs : List α} {n : Int} [m : Mono r] (ha : EvF X a σ F M (rtR M r) xs) (hb : EvF X b σ F M iR n) (hn : -(2 ^ 63) ≤ n ∧ n < 2 ^ 63) (hl : xs.length * n.toNat ≤ 1000000) : EvN X (.BinOp a .Mult b pos) σ F M r (repL xs n) :=
  fun F1 H1 s w Q q => we_of (pe_op op_rep (pe_w a) (pe_w b)) (ha F1 H1 s w _ fun F2 H2 v s2 w2 ⟨l, vs, e, hl1, h2⟩ => hb F2 H2 (s.trans s2) w2 _ fun F3 H3 u s3 w3 hu =>
    ⟨l, n, vs, e, hu, hl1.elim (fun z => w3.f _ _ (s3 _ _ z)) (w3.m _ _), hn.1, hn.2, small_of (by rw [h2.len]; exact hl), fun p hp =>
      q F3 _ p _ (s2.trans s3) (w3.more hp) (w3.noF hp) (w3.noM hp) upd_same (A2.reps (h2.up s3) n.toNat)⟩)
end
end Y

/-! ### what is behind an option -/
namespace Y
open PySem PySem.Spec PyProof.Rows L2
def oG {α : Type} [Inhabited α] (x : Option α) : α := x.getD default
theorem oG_some {α : Type} [Inhabited α] {y : α} : oG (some y) = y := rfl
theorem oG_is {α : Type} [Inhabited α] {x : Option α} (h : x.isNone = false) : x = some (oG x) := by cases x with
  | none => cases h
  | some y => rfl
theorem oG_not {α : Type} [Inhabited α] {x : Option α} (h : (!x.isNone) = true) : x = some (oG x) := by cases x with
  | none => cases h
  | some y => rfl
section
variable [Lams] {X : Cx} {σ : L2.St} {F M : Hp} {e : Expr} {i : Int} {k : Bool}
theorem Bx.ev (h : Bx X e σ F M k) : EvF X e σ F M bR k := h.1
theorem eo_none : EvO X none σ F M none := trivial
theorem eo_some (h : EvF X e σ F M iR i) : EvO X (some e) σ F M (some i) := h
end
end Y

/-! ### slices with a written step: xs[a::c] -/
namespace Y
open PySem PySem.Spec PyProof.Rows L2
/-- what stands at these places -/
def pickS {α : Type} (xs : List α) (lo hi st : Option Int) : List α := (sliceRange (sliceBounds lo hi st xs.length).1 (sliceBounds lo hi st xs.length).2.1 (sliceBounds lo hi st xs.length).2.2).filterMap (xs[·]?)
theorem pickS_mem {α : Type} {xs : List α} {lo hi st : Option Int} {x : α} (h : x ∈ pickS xs lo hi st) : x ∈ xs := by
  obtain ⟨i, _, e⟩ := List.mem_filterMap.mp h
  exact List.mem_of_getElem? e
theorem pickS_arr {xs : List Value} {lo hi st : Option Int} : slicePick xs.toArray lo hi st = (pickS xs lo hi st).toArray := by
  unfold slicePick pickS
  rw [List.size_toArray]
  congr 2
  funext k
  exact List.getElem?_toArray ..
theorem pickS_len {α : Type} {xs : List α} {lo hi st : Option Int} : (pickS xs lo hi st).length ≤ xs.length := by
  have := slicePick_size_le (xs.map fun _ => Value.none).toArray lo hi st
  rw [pickS_arr, List.size_toArray, List.size_toArray, List.length_map] at this
  refine Nat.le_trans (Nat.le_of_eq ?_) this
  unfold pickS
  rw [List.length_map]
  generalize sliceRange _ _ _ = ks
  induction ks with
  | nil => rfl
  | cons k ks ih =>
    rw [List.filterMap_cons, List.filterMap_cons, List.getElem?_map]
    cases xs[k]? with
    | none => exact ih
    | some x => simp only [Option.map_some, List.length_cons, ih]
theorem pick_A2 {α β : Type} {p : α → β → Prop} {as : List α} {bs : List β} (h : A2 p as bs) : ∀ ks : List Nat, A2 p (ks.filterMap (as[·]?)) (ks.filterMap (bs[·]?))
  | [] => .nil
  | k :: ks => by
    rw [List.filterMap_cons, List.filterMap_cons]
    cases e : bs[k]? with
    | none =>
      have : as[k]? = none := List.getElem?_eq_none_iff.mpr (by rw [h.len]; exact List.getElem?_eq_none_iff.mp e)
      rw [this]; exact pick_A2 h ks
    | some b =>
      obtain ⟨a, ea, hp⟩ := h.get e
      rw [ea]; exact .cons hp (pick_A2 h ks)
theorem pickS_A2 {α β : Type} {p : α → β → Prop} {as : List α} {bs : List β} {lo hi st : Option Int} (h : A2 p as bs) : A2 p (pickS as lo hi st) (pickS bs lo hi st) := by
  unfold pickS
  rw [h.len]; exact pick_A2 h _
theorem pick_vals {as : List V} {bs : List Value} (h : Vals as bs) : ∀ ks : List Nat, Vals (ks.filterMap (as[·]?)) (ks.filterMap (bs[·]?))
  | [] => .nil
  | k :: ks => by
    rw [List.filterMap_cons, List.filterMap_cons]
    cases e : as[k]? with
    | none => rw [Vals.none_of h e]; exact pick_vals h ks
    | some b =>
      obtain ⟨a, ea, hp⟩ := h.get e
      rw [ea]; exact .cons hp (pick_vals h ks)
theorem pickS_vals {as : List V} {bs : List Value} {lo hi st : Option Int} (h : Vals as bs) : Vals (pickS as lo hi st) (pickS bs lo hi st) := by
  unfold pickS
  rw [h.length]; exact pick_vals h _
section
variable [Lams] {X : Cx} {σ : L2.St} {F M H : Hp} {a e : Expr} {pos : Pos} {α : Type} {r : Rep α} {te : TE} {tl : TO}
def tStep (K : PySem.W.Frag) (te : TE) (tl : TO) (c : Int) : TE := fun σ H Q => te σ H fun x H1 => tl σ H1 fun lo H2 => ∃ a xs, x = .ref a ∧ SqL K H2 a xs ∧ ∀ p, H2 p = none → Q (.ref p) (upd H2 p (.lst (pickS xs lo none (some c))))
omit [Lams] in
theorem pe_step {lo : Option Expr} {k : Nat} {c : Int} {p1 p3 : Pos} (h0 : c ≠ 0) (he : PE X e te) (hl : PO X lo tl) : PE X (.Subscript e (.Slice lo none (some (.Constant (.int c) k p1)) p3) pos) (tStep X.K te tl c) := by
  refine ⟨fun pins s σ H Q I h => ?_⟩
  refine Subscript_ (L2.thn (he.run pins s σ H _ I h) fun v s1 ⟨x, H1, I1, r1, q1⟩ => ?_)
  have hst : PO X (some (.Constant (.int c) k p1)) (tPart (tC (.int c))) := po_some pe_int
  refine wpAny_Slice (L2.thn (hl.run pins s1 σ H1 _ I1 q1) fun vl s2 ⟨l, H2, I2, pl, q2⟩ => ?_)
  refine L2.thn (po_none.run pins s2 σ H2 (fun o H3 => o = none ∧ H3 = H2) I2 ⟨rfl, rfl⟩) fun vu s3 ⟨u, H3, I3, pu, eu, e3⟩ => ?_
  subst eu e3
  refine L2.thn (hst.run pins s3 σ H3 (fun o H4 => o = some c ∧ H4 = H3) I3 ⟨c, rfl, rfl, rfl⟩) fun vs s4 ⟨o, H4, I4, ps, eo, e4⟩ => ?_
  subst eo e4
  obtain ⟨a, xs, ex, hx, q⟩ := q2
  subst ex
  cases r1
  have I5 : Inv X pins σ H4 { s4 with heap := s4.heap.push { cls := .type "slice", data := .fields #[vl, vu, vs] } } := I4.kept (t' := s4.toks) fun b ob q => Heap.get?_push_of_some _ q
  obtain ⟨its, r, ht, hz⟩ := I5.list hx
  have hlen := r.length
  show wpAny (model X.prog X.w) X.A (subscriptTail e (.Slice lo none (some (.Constant (.int c) k p1)) p3) (.ref a) (.ref s4.heap.objs.size)) (EP X pins σ Q) X.xe { s4 with heap := s4.heap.push { cls := .type "slice", data := .fields #[vl, vu, vs] } }
  refine tail_any (ops := [.ref a, .ref s4.heap.objs.size]) ht.isList.typeIs (PySem.slot_list_getitem.lookup) ?_ (by with_unfolding_all rfl)
  refine wpAny_getItem_list_slice ht.isList (Heap.IsSliceOf.new _ vl vu vs) pl pu ps (by simpa using h0) ?_ (by rw [List.size_toArray]; omega)
  rw [pickS_arr]
  refine ⟨.ref _, _, I5.laid (t' := s4.toks) (o := .lst (pickS xs l none (some c))) (fun b ob q => Heap.get?_push_of_some _ q) (Nat.le_refl _) ?_, rfl, q _ (I5.hok.fresh (Nat.le_refl _))⟩
  exact ⟨Nat.le_trans pickS_len hz, _, 0, pickS_vals r, Heap.get?_push_size _ rfl⟩
theorem en_step {xs : List α} {lo : Option Expr} {l : Option Int} {k : Nat} {c : Int} {p1 p3 : Pos} [m : Mono r] (ha : EvF X a σ F M (rdR X.K M r) xs) (hl : EvO X lo σ F M l) (h0 : c ≠ 0 := by decide) : EvN X (.Subscript a (.Slice lo none (some (.Constant (.int c) k p1)) p3) pos) σ F M r (pickS xs l none (some c)) :=
  fun F1 H1 s w Q q => we_of (pe_step h0 (pe_w a) (po_w lo)) (ha F1 H1 s w _ fun F2 H2 v s2 w2 ⟨k, vs, e, hk, h2⟩ => hl.run (s.trans s2) w2 _ fun F3 H3 s3 w3 =>
    ⟨k, vs, e, w3.sq (hk.imp (fun y => Same.sql s3 y) id), fun p hp => by
      exact q F3 _ p _ (s2.trans s3) (w3.more hp) (w3.noF hp) (w3.noM hp) upd_same (pickS_A2 (h2.up s3))⟩)
/-- for x in t, t a tuple of two or three things of one kind -/
theorem ei_tup {tg it : Expr} {xs : List α} [m : Mono r] (he : Ev X it σ F M fun F v => ∃ a vs, v = .ref a ∧ F a = some (.tup vs) ∧ A2 (r F) vs xs) : EvI X tg it σ F M r xs :=
  fun F1 H1 s w R q => wi_of (pi_tup (pe_w it)) (he F1 H1 s w _ fun F2 H2 v s2 w2 ⟨l, vs, e, hl, h2⟩ => ⟨l, e, ⟨vs, SqT.of (w2.f _ _ hl)⟩, q F2 H2 _ s2 w2 fun i F3 M3 H3 s3 w3 =>
    have ht : SqT X.K H3 l vs := SqT.of (w3.f _ _ (s3 _ _ hl))
    ⟨fun hi => ⟨vs, ht, by rw [h2.len]; exact hi⟩, fun x hx => by
      obtain ⟨u, hu, hr⟩ := h2.get hx
      refine ⟨⟨vs, u, ht, hu⟩, fun v' H' hy => ?_⟩
      obtain ⟨rfl, hy⟩ := hy
      have e2 := hy vs ht
      rw [hu] at e2
      cases e2
      exact ⟨F3, Same.refl _, w3, m.mono s3 hr⟩⟩⟩)
theorem ei_t3 {tg it : Expr} {x : α × α × α} [m : Mono r] (he : EvF X it σ F M (t3R r r r) x) : EvI X tg it σ F M r [x.1, x.2.1, x.2.2] :=
  ei_tup (he.imp fun _ _ ⟨a, u, w, z, e, h, h1, h2, h3⟩ => ⟨a, _, e, h, .cons h1 (.cons h2 (.cons h3 .nil))⟩)
theorem ei_t2 {tg it : Expr} {x : α × α} [m : Mono r] (he : EvF X it σ F M (t2R r r) x) : EvI X tg it σ F M r [x.1, x.2] :=
  ei_tup (he.imp fun _ _ ⟨a, u, w, e, h, h1, h2⟩ => ⟨a, _, e, h, .cons h1 (.cons h2 .nil)⟩)
end
end Y

/-! ### one's own lists handed to a call: they stand while it runs, and are one's own again -/
namespace Y
open PySem PySem.Spec PyProof.Rows L2
/-- reps that lean on no memory -/
class Flat {α : Type} (r : Rep α) : Prop where
  fl : ∀ {F F' : Hp} {v : V} {x : α}, r F v x → r F' v x
instance : Flat iR := ⟨id⟩
instance : Flat bR := ⟨id⟩
instance : Flat sR := ⟨id⟩
instance : Flat nR := ⟨id⟩
/-- reps that lean on no list and no dict -/
class NoLst {α : Type} (r : Rep α) : Prop where
  nl : ∀ {F F' : Hp} {v : V} {x : α}, (∀ b vs, F b = some (.tup vs) → F' b = some (.tup vs)) → r F v x → r F' v x
instance (priority := low) {α : Type} {r : Rep α} [f : Flat r] : NoLst r := ⟨fun _ h => f.fl h⟩
instance {α β : Type} {r : Rep α} {s : Rep β} [a : NoLst r] [b : NoLst s] : NoLst (t2R r s) := ⟨fun k ⟨l, u, w, e, h, h1, h2⟩ => ⟨l, u, w, e, k _ _ h, a.nl k h1, b.nl k h2⟩⟩
instance {α β γ : Type} {r : Rep α} {s : Rep β} {t : Rep γ} [a : NoLst r] [b : NoLst s] [c : NoLst t] : NoLst (t3R r s t) := ⟨fun k ⟨l, u, w, z, e, h, h1, h2, h3⟩ => ⟨l, u, w, z, e, k _ _ h, a.nl k h1, b.nl k h2, c.nl k h3⟩⟩
instance {α : Type} {r : Rep α} [a : NoLst r] : NoLst (oR r) := ⟨fun {F F' v x} k h => by
  cases x with
  | none => exact h
  | some y => exact a.nl (x := y) k h⟩
theorem A2.nl {α : Type} {r : Rep α} [m : NoLst r] {F F' : Hp} (e : ∀ b vs, F b = some (.tup vs) → F' b = some (.tup vs)) {vs : List V} {xs : List α} (h : A2 (r F) vs xs) : A2 (r F') vs xs := h.imp fun _ _ q => m.nl e q
section
variable [Lams] {X : Cx} {σ : L2.St} {F F1 F2 M M' H H1 H2 : Hp} {e : Expr} {l : Addr} {o : HO} {α : Type} {r : Rep α} {x : α} {xs : List α} {k : Bool}
theorem Own.cold (w : Own F1 M H1) (q : M = upd M' l o) (hn : M' l = none) : Own (upd F1 l o) M' H1 := (w.cast q).fz1 hn
theorem Own.warm (w : Own F1 M H1) (q : M = upd M' l o) (w2 : Own F2 M' H2) (s : Same (upd F1 l o) F2) : Own F1 M H2 := by
  subst q
  have hl : F1 l = none := w.d l o upd_same
  refine ⟨fun b y h => w2.f _ _ (s _ _ (by rw [upd_ne (fun z => by rw [z, hl] at h; cases h)]; exact h)), fun b y h => ?_, w.d, w.t, w2.b, w.u⟩
  by_cases z : b = l
  · subst z; rw [upd_same] at h; cases h; exact w2.f _ _ (s _ _ upd_same)
  · rw [upd_ne z] at h; exact w2.m _ _ h
omit [Lams] in
theorem same_cold (s : Same F F1) (h : F l = none) : Same (upd F l o) (upd F1 l o) := same_upd s
theorem Ev.thaw [f : Flat r] (q : M = upd M' l o) (hn : M' l = none) (h : EvF X e σ (upd F l o) M' r x) : EvF X e σ F M r x :=
  fun F1 H1 s w Q k => h (upd F1 l o) H1 (same_upd s) (w.cold q hn) Q fun F2 H2 v s2 w2 hv => k F1 H2 v (Same.refl _) (w.warm q w2 s2) (f.fl hv)
theorem Bx.thaw (q : M = upd M' l o) (hn : M' l = none) (h : Bx X e σ (upd F l o) M' k) : Bx X e σ F M k :=
  ⟨Ev.thaw q hn h.1, fun F1 H1 s w Q c => h.2 (upd F1 l o) H1 (same_upd s) (w.cold q hn) Q fun F2 H2 s2 w2 => c F1 H2 (Same.refl _) (w.warm q w2 s2)⟩
theorem EvN.thaw [f : NoLst r] {vs : List V} (q : M = upd M' l (.lst vs)) (hn : M' l = none) (h : EvN X e σ (upd F l (.lst vs)) M' r xs) : EvN X e σ F M r xs :=
  fun F1 H1 s w Q k => h (upd F1 l (.lst vs)) H1 (same_upd s) (w.cold q hn) Q fun F2 H2 a us s2 w2 n1 n2 hh h2 => by
    have hl : F1 l = none := by subst q; exact w.d l _ upd_same
    have hal : a ≠ l := fun z => by subst z; rw [s2 _ _ upd_same] at n1; cases n1
    have sd : Same F1 (del F2 l) := fun b y hb => by
      have ne : b ≠ l := fun z => by rw [z, hl] at hb; cases hb
      rw [del_ne ne]; exact s2 _ _ (by rw [upd_ne ne]; exact hb)
    have w3 := w.warm q w2 s2
    refine k (del F2 l) H2 a us sd ⟨fun b y hb => ?_, w3.m, fun b y hb => ?_, w3.t, w3.b, fun b y hb => ?_⟩ ?_ ?_ hh (h2.nl fun b ws hb => ?_)
    · by_cases z : b = l
      · subst z; rw [del_same] at hb; cases hb
      · rw [del_ne z] at hb; exact w2.f _ _ hb
    · by_cases z : b = l
      · subst z; exact del_same
      · rw [del_ne z]
        subst q
        rw [upd_ne z] at hb
        exact w2.d _ _ hb
    · by_cases z : b = l
      · subst z; rw [del_same] at hb; cases hb
      · rw [del_ne z] at hb; exact w2.u _ _ hb
    · rw [del_ne hal]; exact n1
    · subst q; rw [upd_ne hal]; exact n2
    · have ne : b ≠ l := fun z => by subst z; rw [s2 _ _ upd_same] at hb; cases hb
      rw [del_ne ne]; exact hb
omit [Lams] in
/-- the ways of a statement meet behind it -/
theorem ss_join {F : Hp} {st : Stmt} {rest : List Stmt} {D : Ends} {H : Hp} (J : Hp → Hp → L2.St → Prop) (h1 : ∀ F2 H2 σ2, Same F F2 → J F2 H2 σ2 → WSs X rest D σ2 H2)
    (h2 : (∀ F2 H2 σ2, Same F F2 → J F2 H2 σ2 → WSs X rest D σ2 H2) → WSs X (st :: rest) D σ H) : WSs X (st :: rest) D σ H := h2 h1
end
end Y

/-! ### dicts whose keys are tuples of ints -/
namespace Y
open PySem PySem.Spec PyProof.Rows L2
/-- all tuples of the heap stand for good -/
def tupF (F H : Hp) : Hp := fun b => match F b with
  | some o => some o
  | none => match H b with
    | some (.tup vs) => some (.tup vs)
    | _ => none
theorem tupF_same {F H : Hp} : Same F (tupF F H) := fun b o e => by unfold tupF; rw [e]
theorem tupF_at [Lams] {F M H : Hp} (w : Own F M H) {b : Addr} {vs : List V} (h : H b = some (.tup vs)) : tupF F H b = some (.tup vs) := by
  unfold tupF
  cases e : F b with
  | some o => have := w.f _ _ e; rw [h] at this; cases this; rfl
  | none => dsimp only; rw [h]
theorem Own.tups [Lams] {F M H : Hp} (w : Own F M H) : Own (tupF F H) M H := by
  refine ⟨fun b o e => ?_, w.m, fun b o e => ?_, w.t, w.b, fun b o e => ?_⟩
  · unfold tupF at e
    cases q : F b with
    | some u => rw [q] at e; cases e; exact w.f _ _ q
    | none =>
      rw [q] at e
      dsimp only at e
      split at e
      · rename_i vs hv; cases e; exact hv
      · cases e
  · unfold tupF
    rw [w.d b o e]
    dsimp only
    rw [w.m b o e]
    cases o with
    | tup vs => have z := w.t b _ e; cases z
    | _ => rfl
  · unfold tupF at e
    cases q : F b with
    | some u => rw [q] at e; cases e; exact w.u _ _ q
    | none =>
      rw [q] at e
      dsimp only at e
      split at e
      · rename_i vs hv; cases e; rfl
      · cases e
class TupB {α : Type} (r : Rep α) extends TupI r where
  back : ∀ {F : Hp} {t : Addr} {x : α}, F t = some (.tup ((key x).map V.int)) → r F (.ref t) x
instance : TupB (t2R iR iR) := { back := fun {F t x} h => ⟨t, _, _, rfl, h, rfl, rfl⟩ }
instance : TupB (t3R iR iR iR) := { back := fun {F t x} h => ⟨t, _, _, _, rfl, h, rfl, rfl, rfl⟩ }
def kI (xs : List Int) : List Key := xs.map Sum.inl
theorem kI_kV (xs : List Int) : (kI xs).map kV = xs.map V.int := by unfold kI; rw [List.map_map]; rfl
theorem kI_inj {xs ys : List Int} (h : kI xs = kI ys) : xs = ys := List.map_inj_right (fun _ _ h => Sum.inl.inj h) |>.mp h
/-- pairs of a dict as they stand for typed ones -/
def DT {κ α : Type} (rk : Rep κ) [t : TupB rk] (r : Rep α) (F : Hp) (ks : List (List Key × V)) (kvs : List (κ × α)) : Prop := A2 (fun p q => p.1 = kI (t.key q.1) ∧ r F p.2 q.2) ks kvs ∧ (kvs.map (·.1)).Nodup
section
variable {κ α : Type} [DecidableEq κ] {rk : Rep κ} [t : TupB rk] {r : Rep α} {F : Hp}
theorem DT.sub [m : Mono r] {F' : Hp} (e : Sub F F') {ks : List (List Key × V)} {kvs : List (κ × α)} (h : DT rk r F ks kvs) : DT rk r F' ks kvs := ⟨h.1.imp fun _ _ q => ⟨q.1, m.sub e q.2⟩, h.2⟩
theorem DT.up [m : Mono r] {F' : Hp} (e : Same F F') {ks : List (List Key × V)} {kvs : List (κ × α)} (h : DT rk r F ks kvs) : DT rk r F' ks kvs := h.sub (Same.sub e)
theorem DT.nil : DT rk r F [] ([] : List (κ × α)) := ⟨.nil, .nil⟩
theorem DT.len {ks : List (List Key × V)} {kvs : List (κ × α)} (h : DT rk r F ks kvs) : ks.length = kvs.length := h.1.len
theorem DT.look {ks : List (List Key × V)} {kvs : List (κ × α)} (h : DT rk r F ks kvs) (x : κ) : match lk x kvs with
    | none => valV ks (kI (t.key x)) = none
    | some y => ∃ v, valV ks (kI (t.key x)) = some v ∧ r F v y := by
  obtain ⟨h, nd⟩ := h
  clear nd
  induction h with
  | nil => exact rfl
  | @cons p p' _ _ q _ ih =>
    unfold lk
    by_cases e : p'.1 = x
    · rw [if_pos e]
      exact ⟨_, valV_pos (by rw [q.1, e]), q.2⟩
    · rw [if_neg e, valV_neg (fun z => e (t.inj _ _ (kI_inj (q.1.symm.trans z))))]
      exact ih
theorem DT.has {ks : List (List Key × V)} {kvs : List (κ × α)} (h : DT rk r F ks kvs) (x : κ) : (valV ks (kI (t.key x))).isSome = (lk x kvs).isSome := by
  have := h.look x
  cases q : lk x kvs with
  | none => rw [q] at this; rw [this]; rfl
  | some y => rw [q] at this; obtain ⟨v, e, _⟩ := this; rw [e]; rfl
theorem putK_consT {p : List Key × V} {ks : List (List Key × V)} {k : List Key} {v : V} (h : ∀ q ∈ ks, q.1 ≠ p.1) : putK (p :: ks) k v = if p.1 = k then (p.1, v) :: ks else p :: putK ks k v := by
  unfold putK
  by_cases e : p.1 = k
  · rw [if_pos e, List.any_cons, decide_eq_true e, Bool.true_or, if_pos rfl, List.map_cons, if_pos e]
    congr 1
    refine (List.map_congr_left fun q hq => ?_).trans (List.map_id _)
    rw [if_neg (fun z => h q hq (z.trans e.symm))]; rfl
  · rw [if_neg e, List.any_cons, decide_eq_false e, Bool.false_or]
    split
    · rw [List.map_cons, if_neg e]
    · rw [List.cons_append]
theorem DT.put {ks : List (List Key × V)} {kvs : List (κ × α)} {x : κ} {y : α} {v : V} (h : DT rk r F ks kvs) (hr : r F v y) : DT rk r F (putK ks (kI (t.key x)) v) (pt x y kvs) := by
  refine ⟨?_, pt_nodup x y h.2⟩
  obtain ⟨h, nd⟩ := h
  induction h with
  | nil => exact .cons ⟨rfl, hr⟩ .nil
  | @cons p p' _ _ q tl ih =>
    rw [List.map_cons, List.nodup_cons] at nd
    rw [putK_consT (fun q2 h2 z => by
      obtain ⟨i, hi⟩ := List.getElem?_of_mem h2
      obtain ⟨b, hb, hk⟩ := tl.getL hi
      have : b.1 = p'.1 := t.inj _ _ (kI_inj (hk.1.symm.trans (z.trans q.1)))
      exact nd.1 (List.mem_map.mpr ⟨b, List.mem_of_getElem? hb, this⟩))]
    unfold pt
    by_cases e : p'.1 = x
    · rw [if_pos e, if_pos (by rw [q.1, e])]
      exact .cons ⟨q.1, hr⟩ tl
    · rw [if_neg e, if_neg (fun z => e (t.inj _ _ (kI_inj (q.1.symm.trans z))))]
      exact .cons q (ih nd.2)
end
def dtR {κ α : Type} (rk : Rep κ) [TupB rk] (r : Rep α) : Rep (List (κ × α)) := fun F v kvs => ∃ a o ks, v = .ref a ∧ F a = some o ∧ DictO o (.dT ks) ∧ DT rk r F ks kvs
instance {κ α : Type} {rk : Rep κ} [TupB rk] {r : Rep α} [m : Mono r] : Mono (dtR rk r) := ⟨fun e ⟨a, o, ks, h1, h2, h3, h4⟩ =>
  let ⟨o', h5, h6⟩ := e.dic h2 h3; ⟨a, o', ks, h1, h5, h6, ⟨h4.1.imp fun _ _ q => ⟨q.1, m.sub e q.2⟩, h4.2⟩⟩⟩
def rdT (M : Hp) {κ α : Type} (rk : Rep κ) [TupB rk] (r : Rep α) : Rep (List (κ × α)) := fun F v kvs => ∃ a ks, v = .ref a ∧ ((∃ o, F a = some o ∧ DictO o (.dT ks)) ∨ M a = some (.dT ks)) ∧ DT rk r F ks kvs
instance {M : Hp} {κ α : Type} {rk : Rep κ} [TupB rk] {r : Rep α} [m : Mono r] : Mono (rdT M rk r) := ⟨fun e ⟨a, ks, h1, h2, h4⟩ =>
  ⟨a, ks, h1, h2.imp (fun ⟨o, h2, h3⟩ => let ⟨o', h5, h6⟩ := e.dic h2 h3; ⟨o', h5, h6⟩) id, ⟨h4.1.imp fun _ _ q => ⟨q.1, m.sub e q.2⟩, h4.2⟩⟩⟩
theorem DictO.rdT {H : Hp} {a : Addr} {o : HO} {ks : List (List Key × V)} (h : H a = some o) (d : DictO o (.dT ks)) : Rd H a (.dT ks) := by
  cases d with
  | t => exact .inl h
  | tf ob => exact .inr ⟨ob, h⟩
theorem rdT.rd [Lams] {M F H : Hp} {a : Addr} {ks : List (List Key × V)} (w : Own F M H) (h : (∃ o, F a = some o ∧ DictO o (.dT ks)) ∨ M a = some (.dT ks)) : Rd H a (.dT ks) := by
  rcases h with ⟨o, h, d⟩ | h
  · exact DictO.rdT (w.f _ _ h) d
  · exact .inl (w.m _ _ h)
/-- len of a dict with tuple keys, locked or not -/
theorem call_len_rdT {X : Cx} : CallR X (.builtin "len") (fun xs H Q => ∃ (p : Addr) (kvs : List (List Key × V)), xs = [.ref p] ∧ Rd H p (.dT kvs) ∧ Q (.int ((kvs.length : Nat) : Int)) H) := by
  intro pins s σ H xs us Q I r h
  obtain ⟨p, kvs, rfl, hp, q⟩ := h
  obtain ⟨u, rfl, rx⟩ := vals1 r
  obtain rfl : u = .ref p := rx
  obtain ⟨z, hd, ys, rel, dd⟩ := dt_rd I.hok hp
  have hl : kvs.length = ys.length := Paired.length rel
  refine call_len_dictH hd dd (by rw [← hl]; rw [sizeLine_eq] at z; omega) ?_
  rw [← hl]
  exact ⟨.int ((kvs.length : Nat) : Int), H, I.tok _, ⟨_, rfl⟩, q⟩
section
variable [Lams] {X : Cx} {σ : L2.St} {F M H : Hp} {a b c e : Expr} {pos p p2 : Pos} {κ α β : Type} [DecidableEq κ] {rk : Rep κ} [t : TupB rk] {r : Rep α} {n : Str} {rest : List Stmt} {D : Ends}
theorem Ev.dt {kvs : List (κ × α)} (h : EvF X e σ F M (dtR rk r) kvs) : EvF X e σ F M (rdT M rk r) kvs := h.imp fun _ _ ⟨a, o, ks, h1, h2, h3, h4⟩ => ⟨a, ks, h1, .inl ⟨o, h2, h3⟩, h4⟩
theorem ev_varDt (i : Nat) {kvs : List (κ × α)} {l : Addr} {ks : List (List Key × V)} {n : Str} [m : Mono r] (hs : σ[i]? = some (some (.ref l))) (hM : M l = some (.dT ks)) (hr : DT rk r F ks kvs) (hN : X.N[i]? = some n := by rfl)
    (hv : Vis X.env.scope n := by first | exact Or.inl rfl | exact Or.inr (Or.inl rfl) | exact Or.inr (Or.inr rfl)) (hd : (n == ("__debug__" : Str)) = false := by decide) (hcd : (n == ("__classdict__" : Str)) = false := by decide) :
    EvF X (.Name n pos) σ F M (rdT M rk r) kvs := fun F1 H1 s w Q q => we_of (pe_var hN hv hd hcd) ⟨_, hs, q F1 H1 _ (Same.refl _) w ⟨l, ks, rfl, .inr hM, hr.up s⟩⟩
/-- how a dict holds at a key that is a tuple -/
theorem DT.get {F1 M1 H1 : Hp} {l : Addr} {ks : List (List Key × V)} {u : V} {x : κ} (w : Own F1 M1 H1) (hl : (∃ o, F1 l = some o ∧ DictO o (.dT ks)) ∨ M1 l = some (.dT ks)) (hu : rk F1 u x) : DGet H1 l u (valV ks (kI (t.key x))) := by
  obtain ⟨b, rfl, hb⟩ := t.tup hu
  exact .inr ⟨ks, _, b, rdT.rd w hl, rfl, by rw [kI_kV]; exact w.f _ _ hb, rfl⟩
theorem bx_inT {x : κ} {kvs : List (κ × α)} [mk : Mono rk] (hu : X.A.units + 64 < cLine) (ha : EvF X a σ F M rk x) (hb : EvF X b σ F M (rdT M rk r) kvs) (hm : behindInMarks .In b = false := by rfl) : Bx X (.Compare a [.In] [b] pos) σ F M (lk x kvs).isSome :=
  bx_c (fun F1 H1 s w Q q => wc_of (pc_din (by omega) (pe_w a) (pe_w b)) (ha F1 H1 s w _ fun F2 H2 v s2 w2 hv => hb F2 H2 (s.trans s2) w2 _ fun F3 H3 u s3 w3 ⟨l, ks, e, hl, hk⟩ =>
    ⟨l, valV ks (kI (t.key x)), e, DT.get w3 hl (Mono.mono s3 hv), by rw [hk.has x]; exact q F3 H3 (s2.trans s3) w3⟩)) hm
theorem bx_niT {x : κ} {kvs : List (κ × α)} [mk : Mono rk] (hu : X.A.units + 64 < cLine) (ha : EvF X a σ F M rk x) (hb : EvF X b σ F M (rdT M rk r) kvs) (hm : behindInMarks .NotIn b = false := by rfl) : Bx X (.Compare a [.NotIn] [b] pos) σ F M (!(lk x kvs).isSome) :=
  bx_c (fun F1 H1 s w Q q => wc_of (pc_dnotin (by omega) (pe_w a) (pe_w b)) (ha F1 H1 s w _ fun F2 H2 v s2 w2 hv => hb F2 H2 (s.trans s2) w2 _ fun F3 H3 u s3 w3 ⟨l, ks, e, hl, hk⟩ =>
    ⟨l, valV ks (kI (t.key x)), e, DT.get w3 hl (Mono.mono s3 hv), by rw [hk.has x]; exact q F3 H3 (s2.trans s3) w3⟩)) hm
theorem evT_get {x : κ} {y : α} {kvs : List (κ × α)} [m : Mono r] (hu : X.A.units + 64 < cLine) (ha : EvF X a σ F M (rdT M rk r) kvs) (hb : EvF X b σ F M rk x) (h : lk x kvs = some y) (hs : NoSl b := by exact fun _ _ => rfl) : EvF X (.Subscript a b pos) σ F M r y :=
  fun F1 H1 s w Q q => we_of (pe_dget (by omega) (pe_w a) (pe_w b) hs) (ha F1 H1 s w _ fun F2 H2 v s2 w2 ⟨l, ks, e, hl, hk⟩ => hb F2 H2 (s.trans s2) w2 _ fun F3 H3 u s3 w3 hu => by
    have := (hk.up s3).look x
    rw [h] at this
    obtain ⟨z, hz, hr⟩ := this
    refine ⟨l, z, e, ?_, q F3 H3 z (s2.trans s3) w3 hr⟩
    rw [← hz]
    exact DT.get w3 (hl.imp (fun ⟨o, h1, h2⟩ => ⟨o, s3 _ _ h1, h2⟩) id) hu)
theorem evT_get2 {f : Expr} {x : κ} {z : α} {kvs : List (κ × α)} {apos : Pos} [m : Mono r] [mk : Mono rk] (hu : X.A.units + 64 < cLine) (ha : EvF X a σ F M (rdT M rk r) kvs) (hb : EvF X b σ F M rk x) (hc : EvF X f σ F M r z) (hm : M2 X a "get" apos b f pos := by exact ⟨rfl, rfl, rfl, rfl⟩) :
    EvF X (.Call (.Attribute a "get" apos) [b, f] [] pos) σ F M r ((lk x kvs).getD z) :=
  fun F1 H1 s w Q q => we_of (pe_dget2 (by omega) (pe_w a) (pe_w b) (pe_w f) hm) (ha F1 H1 s w _ fun F2 H2 v s2 w2 ⟨l, ks, e, hl, hk⟩ => ⟨l, e, .inr ⟨ks, rdT.rd w2 hl⟩, hb F2 H2 (s.trans s2) w2 _ fun F3 H3 u s3 w3 hu => hc F3 H3 ((s.trans s2).trans s3) w3 _ fun F4 H4 u2 s4 w4 hz => by
    refine ⟨valV ks (kI (t.key x)), DT.get w4 (hl.imp (fun ⟨o, h1, h2⟩ => ⟨o, s4 _ _ (s3 _ _ h1), h2⟩) id) (Mono.mono s4 hu), ?_⟩
    have := (hk.up (s3.trans s4)).look x
    cases h : lk x kvs with
    | none => rw [h] at this; rw [this]; exact q F4 H4 _ ((s2.trans s3).trans s4) w4 (by rw [h]; exact hz)
    | some y => rw [h] at this; obtain ⟨z', e1, hr⟩ := this; rw [e1]; exact q F4 H4 _ ((s2.trans s3).trans s4) w4 (by rw [h]; exact hr)⟩)
theorem evT_get1 {x : κ} {kvs : List (κ × α)} {apos : Pos} [m : Mono r] (hu : X.A.units + 64 < cLine) (ha : EvF X a σ F M (rdT M rk r) kvs) (hb : EvF X b σ F M rk x) (hm : M1 X a "get" apos b pos := by exact ⟨rfl, rfl, rfl, rfl⟩) :
    EvF X (.Call (.Attribute a "get" apos) [b] [] pos) σ F M (oR r) (lk x kvs) :=
  fun F1 H1 s w Q q => we_of (pe_dget1 (by omega) (pe_w a) (pe_w b) hm) (ha F1 H1 s w _ fun F2 H2 v s2 w2 ⟨l, ks, e, hl, hk⟩ => ⟨l, e, .inr ⟨ks, rdT.rd w2 hl⟩, hb F2 H2 (s.trans s2) w2 _ fun F3 H3 u s3 w3 hu => by
    refine ⟨valV ks (kI (t.key x)), DT.get w3 (hl.imp (fun ⟨o, h1, h2⟩ => ⟨o, s3 _ _ h1, h2⟩) id) hu, ?_⟩
    have := (hk.up s3).look x
    refine q F3 H3 _ (s2.trans s3) w3 ?_
    cases h : lk x kvs with
    | none => rw [h] at this; rw [this]; exact rfl
    | some y => rw [h] at this; obtain ⟨z', e1, hr⟩ := this; rw [e1]; exact hr⟩)
theorem evT_len {kvs : List (κ × α)} (hm : X.mg "len" = none) (ha : EvF X a σ F M (rdT M rk r) kvs) (hg : Gl X "len" := by rfl) (he : starEach [a] X.env = (false, eval a X.env) :: starEach [] X.env := by rfl) (hpl : (backTo pos (starEach [] X.env)).any (·.1) = false := by rfl) :
    EvF X (.Call (.Name "len" p) [a] [] pos) σ F M iR (kvs.length : Int) :=
  fun F1 H1 s w Q q => we_of (pe_callB call_len_rdT hg hm PySem.boot_len (pa_cons (pe_w a) pa_nil he) (he := he) (hpl := hpl)) (ha F1 H1 s w _ fun F2 H2 v s2 w2 ⟨l, ks, e, hl, hk⟩ =>
    ⟨l, ks, by rw [e], rdT.rd w2 hl, q F2 H2 _ s2 w2 (show iR F2 (V.int (ks.length : Int)) (kvs.length : Int) from by rw [hk.len]; rfl)⟩)
/-- x = {} whose keys will be tuples -/
theorem ss_setDt (i : Nat) (w : Own F M H) (k : ∀ H2 l, M l = none → Own F (upd M l (.dT [])) H2 → WSs X rest D (σ.set i (some (.ref l))) H2)
    (hN : X.N.Nodup) (hi : X.N[i]? = some n := by rfl) (hx : Loc X.env.scope n := by first | exact Or.inl rfl | exact Or.inr rfl) (hs : swapsWith (.Dict [] [] p2) (some (.Name n p)) pos.line X.env = pure false := by rfl) (hf : X.fn n = true ∨ X.env.scope.names.lookup n = some .local := by first | exact .inl rfl | exact .inr rfl) :
    WSs X (.Assign [.Name n p] (.Dict [] [] p2) pos :: rest) D σ H :=
  wss_cons (ws_of (ps_set hN hi hx pe_dnewT hs hf) fun l hl => k _ l (w.noM hl) (w.newM hl))
theorem ss_dputT {ix : Expr} {l : Addr} {ks : List (List Key × V)} {kvs : List (κ × α)} {x : κ} {y : α} (i : Nat) {q1 q2 : Pos} [m : Mono r] (hu : X.A.units + 64 < cLine) (hs : σ[i]? = some (some (.ref l))) (hM : M l = some (.dT ks)) (hA : DT rk r F ks kvs) (he : EvF X e σ F M r y) (hix : EvF X ix σ F M rk x) (w : Own F M H) (hl : kvs.length < 1000000)
    (kk : ∀ F2 M2 H2 ks', Same F F2 → M2 = upd M l (.dT ks') → Own F2 M2 H2 → DT rk r F2 ks' (pt x y kvs) → WSs X rest D σ H2) (hN : X.N[i]? = some n := by rfl)
    (hv : Vis X.env.scope n := by first | exact Or.inl rfl | exact Or.inr (Or.inl rfl) | exact Or.inr (Or.inr rfl)) (hd : (n == ("__debug__" : Str)) = false := by decide) (hcd : (n == ("__classdict__" : Str)) = false := by decide)
    (hsw : swapsWith e (some (.Subscript (.Name n q1) ix q2)) pos.line X.env = pure false := by rfl) :
    WSs X (.Assign [.Subscript (.Name n q1) ix q2] e pos :: rest) D σ H :=
  wss_cons (ws_of (ps_dput (by omega) (pe_var hN hv hd hcd) (pe_w ix) (pe_w e) hsw) (he F H (Same.refl _) w _ fun F2 H2 v s2 w2 hv => ⟨_, hs, hix F2 H2 s2 w2 _ fun F3 H3 u s3 w3 hu => by
    have hz : ks.length < sizeLine := Nat.lt_of_lt_of_le (show ks.length < 1000000 by rw [hA.len]; exact hl) (by decide)
    obtain ⟨b, rfl, hb⟩ := t.tup hu
    exact ⟨l, _, rfl, DPut.t (w3.m _ _ hM) (by rw [kI_kV]; exact w3.f _ _ hb) hz, kk F3 _ _ _ (s2.trans s3) rfl (w3.put hM) ((hA.up (s2.trans s3)).put (Mono.mono s3 hv))⟩⟩))
theorem yields_keysT {d : Addr} {o : Obj} {ks : List (List Key × V)} {kvs : List (κ × α)} (hF : F d = some (.frz o (.dT ks))) (h : DT rk r F ks kvs) : Yields F (Itkt d o ks) rk (kvs.map (·.1)) := fun i F3 M3 H3 s3 w3 =>
  ⟨fun hi => ⟨w3.f _ _ (s3 _ _ hF), by rw [h.len]; simpa using hi⟩, fun x hx => by
    rw [List.getElem?_map] at hx
    cases e : kvs[i]? with
    | none => rw [e] at hx; cases hx
    | some q =>
      rw [e] at hx
      cases hx
      obtain ⟨p, hp, hk⟩ := h.1.get e
      refine ⟨⟨w3.f _ _ (s3 _ _ hF), (List.getElem?_eq_some_iff.mp hp).1⟩, fun v H' hy => ?_⟩
      obtain ⟨rfl, k, v', b, h1, rfl, hb⟩ := hy
      rw [hp] at h1
      cases h1
      have hk1 := hk.1
      dsimp only at hk1
      subst hk1
      rw [kI_kV] at hb
      exact ⟨tupF F3 _, tupF_same, w3.tups, t.back (tupF_at w3 hb)⟩⟩
end
end Y

/-! ### sorted of a dict: its keys, tuples of ints, down; ints; comprehensions over a dict with tuple keys -/
namespace Y
open PySem PySem.Spec PyProof.Rows L2
section
variable {prog : Program} {w : World} {A : Around} {E : Value → Shared → Prop} {s : Shared}
/-- sorted(x, ..) of a walked thing whose items are vs -/
theorem sorted_of {x : Addr} {vs : List Value} {b : Bool} {kw : List (Str × Value)} {ltv : Value → Value → Bool} {Q : Value → Shared → Prop} (hk : ∀ a, Builtin.«list.sort» ⟨[.ref a], kw⟩ = Builtin.«list.sort» ⟨[.ref a], [(Str.ofString "reverse", .bool b)]⟩)
    (ha1 : argsOk "sorted" ⟨[.ref x], kw⟩) (ha2 : ∀ a, argsOk "list.sort" ⟨[a], kw⟩) (O : SrtO.Swo ltv)
    (hc : ∀ R : List Value → Shared → Prop, (∀ (h' : Heap) (tk : Nat), (∀ b o, s.heap.get? b = some o → h'.get? b = some o) → R vs { s with heap := h', toks := tk }) → wpAny (model prog w) A.in1 (collect (.ref x)) R E s)
    (hz : vs.length ≤ sizeLine)
    (hS : 2 ≤ vs.length → ∀ (h₁ : Heap) (tk : Nat) (a : Addr), h₁.get? a = some (seqObj "list" vs.toArray 0) → (∀ b o, s.heap.get? b = some o → b ≠ a ∧ h₁.get? b = some o) → SrtO.SortableO prog w A.in1.in1 { s with heap := h₁, toks := tk } a vs ltv)
    (h : ∀ (h1 h' : Heap) (tk : Nat) (d : Addr) (out : List Value), SrtO.Srtd ltv out → SrtO.Stb ltv out (if b = true then vs.reverse else vs) → (∀ b o, s.heap.get? b = some o → h1.get? b = some o) → (∀ b o, h1.get? b = some o → h'.get? b = some o) → h1.objs.size ≤ d → (∃ n, h'.get? d = some (seqObj "list" (if b = true then out.toArray.reverse else out.toArray) n)) → Q (.ref d) { s with heap := h', toks := tk }) :
    wpAny (model prog w) A (call (.builtin "sorted") [.ref x] kw) Q E s := by
  refine call_function_entry_kw kind_sorted plain_sorted entry_sorted ha1 ?_
  unfold Builtin.«sorted»
  refine wpAny_bind (m := checkCount "sorted" 1 1 _) (wpAny_pure ?_)
  refine wpAny_bind (hc _ fun h1 tk k1 => ?_)
  refine wpAny_bind (wpAny_newList ?_ hz)
  have hoL : (h1.push (seqObj "list" vs.toArray 0)).get? h1.objs.size = some (seqObj "list" vs.toArray 0) := Heap.get?_push_size _ rfl
  have keep : ∀ b o, s.heap.get? b = some o → b ≠ h1.objs.size ∧ (h1.push (seqObj "list" vs.toArray 0)).get? b = some o := fun b o q =>
    ⟨Nat.ne_of_lt (Heap.lt_size (k1 b o q)), Heap.get?_push_of_some _ (k1 b o q)⟩
  show wpAny _ _ _ _ _ { s with heap := h1.push (seqObj "list" vs.toArray 0), toks := tk }
  refine wpAny_bind (wpAny_holding (wpAny_call_entry_kw slot_list_sort ⟨_, hoL, rfl⟩ entry_list_sort ?_ (ha2 _)))
  rw [hk]
  refine SrtR.list_sort_ordR O hoL hz (fun h2 => hS h2 _ tk _ hoL keep) fun out hs hb => ⟨_, rfl, ?_⟩
  refine wpAny_pure ⟨_, rfl, h h1 _ tk h1.objs.size out hs hb k1 (fun b u e => ?_) (Nat.le_refl _) (sortedHeap_at (vs := vs) hoL)⟩
  rw [sortedHeap_old (Nat.ne_of_lt (Heap.lt_size e)) (by rw [size_push']; exact Nat.lt_succ_of_lt (Heap.lt_size e))]
  exact Heap.get?_push_of_some _ e
end
/-- sorted of a dict's keys, tuples of ints, by reverse=b -/
def rSortedDT (b : Bool) (zs0 : List V) : List V → List V → Hp → VK → Prop := fun vs zs H Q => ∃ (a : Addr) (kvs : List (List Key × V)) (m : Nat), 0 < m ∧ vs = [V.ref a] ∧ zs = zs0 ∧ Rd H a (.dT kvs) ∧ (∀ p ∈ kvs, ∃ ns : List Int, p.1 = kI ns ∧ ns.length = m) ∧
  ∀ bs ys p, IsKeys H kvs bs → ys.Perm (bs.map V.ref) → (if b = true then ys.reverse else ys).Pairwise (fun x y => HT.lexLt (keyV H y) (keyV H x) = false) → H p = none → Q (.ref p) (upd H p (.lst ys))
section
variable {X : Cx}
theorem sortedDT_run {b : Bool} {kw : List (Str × Value)} {pins : List (Addr × Obj)} {s : Shared} {σ : L2.St} {H : Hp} {a : Addr} {kvs : List (List Key × V)} {m : Nat} {Q : VK} (hc : X.calm = true) (I : Inv X pins σ H s) (hm0 : 0 < m) (hd : Rd H a (.dT kvs)) (hks : ∀ p ∈ kvs, ∃ ns : List Int, p.1 = kI ns ∧ ns.length = m)
    (hk : ∀ a, Builtin.«list.sort» ⟨[.ref a], kw⟩ = Builtin.«list.sort» ⟨[.ref a], [(Str.ofString "reverse", .bool b)]⟩) (ha1 : argsOk "sorted" ⟨[.ref a], kw⟩) (ha2 : ∀ a, argsOk "list.sort" ⟨[a], kw⟩)
    (q : ∀ bs ys p, IsKeys H kvs bs → ys.Perm (bs.map V.ref) → (if b = true then ys.reverse else ys).Pairwise (fun x y => HT.lexLt (keyV H y) (keyV H x) = false) → H p = none → Q (.ref p) (upd H p (.lst ys))) : wpAny (model X.prog X.w) X.A (call (.builtin "sorted") [.ref a] kw) (EP X pins σ Q) X.xe s := by
  obtain ⟨z, hs, ks, pr, o, es, ep, ho, hx, hdt, he, hn⟩ := (show ObjOk X.prog X.w H s.heap a (.dT kvs) from hd.ok I.hok)
  have l1 : es.size = ks.length := size_of_entries he
  have l2 : kvs.length = ks.length := Paired.length pr
  have ik := isKeys_of pr
  -- the key tuples
  have hts : ∀ v ∈ (ks.map fun x => x.2.1).map Value.ref, ∃ (t : Addr) (ns : List Int), v = .ref t ∧ H t = some (.tup (ns.map V.int)) ∧ ns.length = m := fun v hv => by
    obtain ⟨t, ht, rfl⟩ := List.mem_map.mp hv
    obtain ⟨i, hi⟩ := List.getElem?_of_mem ht
    have hi2 : i < kvs.length := by
      have := (List.getElem?_eq_some_iff.mp hi).1
      rw [List.length_map] at this; omega
    obtain ⟨ns, e1, e2⟩ := hks _ (List.getElem_mem hi2)
    have : H t = some (.tup ((kvs[i]).1.map kV)) := by
      have aux : ∀ {l1 : List (List Key × V)} {l2 : List Addr} {i : Nat} {t : Addr} {p : List Key × V}, Paired (fun (p : List Key × V) (b : Addr) => H b = some (.tup (p.1.map kV))) l1 l2 → l2[i]? = some t → l1[i]? = some p → H t = some (.tup (p.1.map kV)) := by
        intro l1 l2 i t p hp
        induction hp generalizing i with
        | nil => intro h; simp at h
        | cons r _ ih =>
          intro h1 h2
          cases i with
          | zero => simp at h1 h2; subst h1 h2; exact r
          | succ i => exact ih (by simpa using h1) (by simpa using h2)
      exact aux ik hi (List.getElem?_eq_getElem hi2)
    rw [e1, kI_kV] at this
    exact ⟨t, ns, rfl, this, e2⟩
  have tupAt : ∀ {h' : Heap}, (∀ b o, s.heap.get? b = some o → h'.get? b = some o) → ∀ v ∈ (ks.map fun x => x.2.1).map Value.ref, IsTupI h' v (keyV H (backV v)) ∧ (keyV H (backV v)).length = m := fun {h'} kk v hv => by
    obtain ⟨t, ns, rfl, ht, hl⟩ := hts v hv
    obtain ⟨_, its2, r2, o2, ho2, hc2, n, hd2⟩ := I.hok _ _ ht
    have hkk : keyV H (backV (Value.ref t)) = ns := keyV_of ht
    rw [hkk]
    exact ⟨⟨t, o2, its2, n, rfl, kk _ _ ho2, hc2, hd2, r2.ints⟩, hl⟩
  refine sorted_of (vs := (ks.map fun x => x.2.1).map Value.ref) (ltv := fun v u => HT.lexLt (keyV H (backV v)) (keyV H (backV u))) hk ha1 ha2 (NtL.swo_lexL _) (fun R hR => ?_) (by rw [List.length_map, List.length_map]; omega) (fun h2 h₁ tk a' ha' kk => ?_) fun h0 h' tk d out h1 h2 kp0 kp hd' hn' => ?_
  · refine PySem.W.kdu_collect (A := X.A.in1) (kdl_raw hs hx hdt) (I.ok.hd hc) ho (by omega) fun h' tk acc kp it => ?_
    have ea : acc.toList = ks.map fun x => Value.ref x.2.1 := by
      have hl : acc.toList.length = ks.length := by rw [Array.length_toList, it.1]; exact l1
      apply List.ext_getElem?
      intro j
      rw [List.getElem?_map]
      cases hj : acc.toList[j]? with
      | none =>
        have h1 := List.getElem?_eq_none_iff.mp hj
        rw [List.getElem?_eq_none (by omega)]
        all_goals rfl
      | some v =>
        obtain ⟨en, hen, hv⟩ := it.2 j v (by rw [← Array.getElem?_toList]; exact hj)
        have qe := entry_at he j
        rw [hen] at qe
        cases hb : ks[j]? with
        | none => rw [hb] at qe; exact nomatch (show some en = none from qe)
        | some b =>
          rw [hb] at qe
          have e2 : en = entryOfKey (tupleKind (mixKind X.prog X.w)) b := Option.some.inj qe
          rw [hv, e2]
          all_goals rfl
    have := hR h' tk kp
    rw [List.map_map] at this
    rw [ea]; exact this
  · refine tupI_sortable (s := { s with heap := h₁, toks := tk }) (k := fun v => keyV H (backV v)) hm0 (by omega) (fun v hv => tupAt (fun b o e => (kk b o e).2) v hv) fun o' e => ?_
    have e' : some o' = some (seqObj "list" ((ks.map fun x => x.2.1).map Value.ref).toArray 0) := e.symm.trans ha'
    cases e'
    exact fun c => absurd (Value.type.inj c) (by decide)
  · have h3 : ∀ u ∈ out, ∃ a, u = Value.ref a := fun u hu => by
      have := h2.perm.mem_iff.mp hu
      have : u ∈ (ks.map fun x => x.2.1).map Value.ref := by cases b with
        | true => exact List.mem_reverse.mp this
        | false => exact this
      obtain ⟨t, _, e⟩ := List.mem_map.mp this
      exact ⟨t, e.symm⟩
    obtain ⟨n, hn'⟩ := hn'
    have hp0 : (out.map backV).Perm ((ks.map fun x => x.2.1).map V.ref) := by
      have e1 : (ks.map fun x => x.2.1).map V.ref = ((ks.map fun x => x.2.1).map Value.ref).map backV := by simp only [List.map_map]; rfl
      rw [e1]
      refine (h2.perm.map backV).trans ?_
      cases b with
      | true => exact (List.reverse_perm _).map backV
      | false => exact List.Perm.refl _
    have hord : (out.map backV).Pairwise (fun x y => HT.lexLt (keyV H y) (keyV H x) = false) := List.pairwise_map.mpr h1
    have hlen : (out.map backV).length ≤ sizeLine := by rw [hp0.length_eq, List.length_map, List.length_map]; omega
    have I1 : Inv X pins σ H { s with heap := h0, toks := tk } := I.kept kp0
    have hn0 : H d = none := I1.hok.fresh hd'
    cases b with
    | false =>
      refine ⟨.ref d, upd H d (.lst (out.map backV)), I1.laid (t' := tk) kp hd' ⟨hlen, out, n, vals_back h3, hn'⟩, rfl, q _ _ d ik hp0 hord hn0⟩
    | true =>
      have hn2 : h'.get? d = some (seqObj "list" out.reverse.toArray n) := by simpa using hn'
      refine ⟨.ref d, upd H d (.lst (out.reverse.map backV)), I1.laid (t' := tk) kp hd' ⟨by rw [List.map_reverse, List.length_reverse]; exact hlen, out.reverse, n, vals_back (fun u hu => h3 u (List.mem_reverse.mp hu)), hn2⟩, rfl, q _ _ d ik ?_ ?_ hn0⟩
      · rw [List.map_reverse]; exact (List.reverse_perm _).trans hp0
      · rw [if_pos rfl, List.map_reverse, List.reverse_reverse]; exact hord
theorem cr_sortedDTR (hc : X.calm = true) {b : Bool} : CallRK X (.builtin "sorted") [Str.ofString "reverse"] (rSortedDT b [.bl b]) := by
  intro pins s σ H vs zs us ws Q I r rz h
  obtain ⟨a, kvs, m, hm0, rfl, rfl, hd, hks, q⟩ := h
  obtain rfl := Vals.ref1 r
  obtain ⟨w1, rfl, e1⟩ := vals1 rz
  obtain rfl : w1 = Value.bool b := e1
  exact sortedDT_run hc I hm0 hd hks (fun _ => rfl) (PyProof.Rows.args_sorted_rev _ _) (fun _ => PyProof.Rows.args_list_sort_rev _ _) q
variable [Lams] {σ : L2.St} {F M H : Hp} {a b c e : Expr} {pos p p2 : Pos} {κ α β : Type} [DecidableEq κ] {rk : Rep κ} [t : TupB rk] {r : Rep α} {n : Str} {rest : List Stmt} {D : Ends}
omit [Lams] in
theorem pw_rev {α : Type} {R : α → α → Prop} {xs : List α} (h : xs.reverse.Pairwise R) : xs.Pairwise fun x y => R y x := by rw [List.pairwise_reverse] at h; exact h
/-- sorted(d, reverse=True) -/
theorem en_sortedDTR {kvs : List (κ × α)} {j} {q1 kp : Pos} [mk : Mono rk] (hc : X.calm = true) (hm : X.mg "sorted" = none) (ha : EvF X a σ F M (rdT M rk r) kvs) (hg : Gl X "sorted" := by rfl)
    (he : backTo pos (starEach [a] X.env) = (false, eval a X.env) :: backTo pos (starEach [] X.env) := by rfl) (hpl : (backTo pos (starEach [a] X.env)).any (·.1) = false := by rfl) (he0 : starEach [a] X.env = (false, eval a X.env) :: starEach [] X.env := by rfl)
    (hall : (backToKw pos (keywordEach [⟨some "reverse", .Constant (.bool true) j q1, kp⟩] X.env)).all (·.1.isSome) = true := by rfl) (hnone : (backToKw pos (keywordEach [⟨some "reverse", .Constant (.bool true) j q1, kp⟩] X.env)).any (·.1.isNone) = false := by rfl) (hks : (backToKw pos (keywordEach [⟨some "reverse", .Constant (.bool true) j q1, kp⟩] X.env)).filterMap (·.1) = [Str.ofString "reverse"] := by rfl) :
    EvN X (.Call (.Name "sorted" p) [a] [⟨some "reverse", .Constant (.bool true) j q1, kp⟩] pos) σ F M rk (srtK t.key (kvs.map (·.1))).reverse :=
  fun F1 H1 s w Q q => we_of (pe_callBK (cr_sortedDTR hc (b := true)) hg hm (by decide +kernel) (pa_cons (pe_w a) pa_nil he0) (pk_cons pe_bl pk_nil) (he := he) (hpl := hpl) (hall := hall) (hnone := hnone) (hks := hks)) (ha F1 H1 s w _ fun F2 H2 v s2 w2 ⟨l, ks, e, hl, hk⟩ => by
    refine ⟨l, ks, t.m, t.pos, by rw [e], rfl, rdT.rd w2 hl, fun p hp => ?_, fun bs ys d hbs hp ho hd => ?_⟩
    · obtain ⟨i, hi⟩ := List.getElem?_of_mem hp
      obtain ⟨x, hx, h1⟩ := hk.1.getL hi
      exact ⟨t.key x.1, h1.1, t.len _⟩
    · -- the keys as they stand
      have w3 := w2.tups
      have kb : A2 (rk (tupF F2 H2)) (bs.map V.ref) (kvs.map (·.1)) := by
        clear hp ho
        have aux : ∀ {ks : List (List Key × V)} {kvs : List (κ × α)} {bs : List Addr}, A2 (fun p q => p.1 = kI (t.key q.1) ∧ r F2 p.2 q.2) ks kvs → IsKeys H2 ks bs → A2 (rk (tupF F2 H2)) (bs.map V.ref) (kvs.map (·.1)) := by
          intro ks kvs bs h1 h2
          induction h1 generalizing bs with
          | nil => cases h2; exact .nil
          | cons q _ ih =>
            cases h2 with
            | cons r1 r2 =>
              refine .cons (t.back (tupF_at w2 ?_)) (ih r2)
              rw [r1, q.1, kI_kV]
        exact aux hk.1 hbs
      have nd := hk.2
      -- the sorted ones
      obtain ⟨zs, hz2, hz1⟩ := A2.perm hp kb
      have hkey : ∀ {v : V} {x : κ}, rk (tupF F2 H2) v x → keyV H2 v = t.key x := fun {v x} h => by
        obtain ⟨b, rfl, hb⟩ := t.tup h
        exact keyV_of (w3.f _ _ hb)
      have ho2 : ys.reverse.Pairwise (fun x y => HT.lexLt (keyV H2 y) (keyV H2 x) = false) := by simpa using ho
      have hpz : zs.reverse.Pairwise (fun x y => HT.lexLt (t.key y) (t.key x) = false) := hz1.rev.pw (fun a b a' b' h1 h2 h3 => by rw [← hkey h1, ← hkey h2]; exact h3) ho2
      have ez : zs.reverse = srtK t.key (kvs.map (·.1)) := srtK_uniq (fun x _ => t.len x) t.inj ((List.reverse_perm _).trans hz2) hpz
      have ez2 : zs = (srtK t.key (kvs.map (·.1))).reverse := by rw [← ez, List.reverse_reverse]
      subst ez2
      exact q (tupF F2 H2) _ d ys (s2.trans tupF_same) (w3.more hd) (w3.noF hd) (w3.noM hd) upd_same hz1)
/-! one's own list: x.extend(e), x.reverse(), x.clear() -/
theorem ss_ext {α : Type} {r : Rep α} {l : Addr} {vs : List V} {xs : List α} [m : Mono r] (i : Nat) {cpos apos npos : Pos} (hs : σ[i]? = some (some (.ref l))) (hM : M l = some (.lst vs)) (he : EvF X e σ F M (rtR M r) xs) (w : Own F M H) (hz : vs.length + xs.length ≤ 1000000)
    (k : ∀ F2 M2 H2 us, Same F F2 → M2 = upd M l (.lst (vs ++ us)) → Own F2 M2 H2 → A2 (r F2) us xs → WSs X rest D σ H2) (hN : X.N[i]? = some n := by rfl)
    (hv : Vis X.env.scope n := by first | exact Or.inl rfl | exact Or.inr (Or.inl rfl) | exact Or.inr (Or.inr rfl)) (hd : (n == ("__debug__" : Str)) = false := by decide) (hcd : (n == ("__classdict__" : Str)) = false := by decide)
    (hbase : attributeBase (.Name n npos) "extend" X.env (eval (.Name n npos) X.env) = eval (.Name n npos) X.env := by rfl)
    (hfew : ((backTo cpos (starEach [e] X.env)).all (fun x => !x.1) && (backToKw cpos (keywordEach [] X.env)).all (fun x => x.1.isSome)
      && decide ([e].length + ([] : List Keyword).length + (if ([] : List Keyword).isEmpty then 0 else 1) < 30)) = true := by rfl)
    (hline : (apos.endLine == cpos.line) = true := by rfl) (hst : starEach [e] X.env = (false, eval e X.env) :: starEach [] X.env := by rfl) (hplain : (backTo cpos (starEach [] X.env)).any (·.1) = false := by rfl)
    (hsw : swapsWith (.Call (.Attribute (.Name n npos) "extend" apos) [e] [] cpos) none pos.line X.env = pure false := by rfl) :
    WSs X (.Expr (.Call (.Attribute (.Name n npos) "extend" apos) [e] [] cpos) pos :: rest) D σ H :=
  wss_cons (ws_of (ps_expr (pe_bm PySem.F.plainAttrs_list PySem.F.slot_list_extend PySem.F.type_list_extend mt_extend (pe_var hN hv hd hcd) (pa_cons (pe_w e) pa_nil hst) hbase hfew hline hst hplain) hsw)
    ⟨_, hs, .inl ⟨rfl, _, SqL.of (w.m _ _ hM)⟩, he F H (Same.refl _) w _ fun F2 H2 v s2 w2 ⟨b, us, eb, hb, hA⟩ => ⟨l, b, vs, us, rfl, by rw [eb], w2.m _ _ hM, hb.elim (fun q => w2.f _ _ q) (fun q => w2.m _ _ q), Nat.le_trans (by rw [hA.len]; exact hz) (by decide), k F2 _ _ us s2 rfl (w2.put hM) hA⟩⟩)
theorem ss_rvs {l : Addr} {vs : List V} (i : Nat) {cpos apos npos : Pos} (hs : σ[i]? = some (some (.ref l))) (hM : M l = some (.lst vs)) (w : Own F M H)
    (k : ∀ M2 H2, M2 = upd M l (.lst vs.reverse) → Own F M2 H2 → WSs X rest D σ H2) (hN : X.N[i]? = some n := by rfl)
    (hv : Vis X.env.scope n := by first | exact Or.inl rfl | exact Or.inr (Or.inl rfl) | exact Or.inr (Or.inr rfl)) (hd : (n == ("__debug__" : Str)) = false := by decide) (hcd : (n == ("__classdict__" : Str)) = false := by decide)
    (hbase : attributeBase (.Name n npos) "reverse" X.env (eval (.Name n npos) X.env) = eval (.Name n npos) X.env := by rfl) (hline : (apos.endLine == cpos.line) = true := by rfl)
    (hsw : swapsWith (.Call (.Attribute (.Name n npos) "reverse" apos) [] [] cpos) none pos.line X.env = pure false := by rfl) :
    WSs X (.Expr (.Call (.Attribute (.Name n npos) "reverse" apos) [] [] cpos) pos :: rest) D σ H :=
  wss_cons (ws_of (ps_expr (pe_bm0 PySem.F.plainAttrs_list PySem.F.slot_list_reverse PySem.F.type_list_reverse mt_reverse (pe_var hN hv hd hcd) hbase hline) hsw)
    ⟨_, hs, .inl ⟨rfl, _, SqL.of (w.m _ _ hM)⟩, l, vs, rfl, rfl, w.m _ _ hM, k _ _ rfl (w.put hM)⟩)
theorem ss_clr {l : Addr} {vs : List V} (i : Nat) {cpos apos npos : Pos} (hs : σ[i]? = some (some (.ref l))) (hM : M l = some (.lst vs)) (w : Own F M H)
    (k : ∀ M2 H2, M2 = upd M l (.lst []) → Own F M2 H2 → WSs X rest D σ H2) (hN : X.N[i]? = some n := by rfl)
    (hv : Vis X.env.scope n := by first | exact Or.inl rfl | exact Or.inr (Or.inl rfl) | exact Or.inr (Or.inr rfl)) (hd : (n == ("__debug__" : Str)) = false := by decide) (hcd : (n == ("__classdict__" : Str)) = false := by decide)
    (hbase : attributeBase (.Name n npos) "clear" X.env (eval (.Name n npos) X.env) = eval (.Name n npos) X.env := by rfl) (hline : (apos.endLine == cpos.line) = true := by rfl)
    (hsw : swapsWith (.Call (.Attribute (.Name n npos) "clear" apos) [] [] cpos) none pos.line X.env = pure false := by rfl) :
    WSs X (.Expr (.Call (.Attribute (.Name n npos) "clear" apos) [] [] cpos) pos :: rest) D σ H :=
  wss_cons (ws_of (ps_expr (pe_bm0 PySem.F.plainAttrs_list PySem.F.slot_list_clear PySem.F.type_list_clear mt_clear (pe_var hN hv hd hcd) hbase hline) hsw)
    ⟨_, hs, .inl ⟨rfl, _, SqL.of (w.m _ _ hM)⟩, l, vs, rfl, rfl, w.m _ _ hM, k _ _ rfl (w.put hM)⟩)
end
end Y

/-! ### instances that stand for good: parts -/
namespace Y
open PySem PySem.Spec PyProof.Rows L2
inductive PKind | tone | rest | row | rep | shift | stretch | beside
  deriving DecidableEq, Inhabited
structure Meas where
  cells : Int
  leaves : Int
  size : Int
  depth : Int
  low : Option Int
  high : Option Int
  deriving DecidableEq, Inhabited
/-- a part: its kind, its number, what is within it, its measures -/
inductive PT | mk (k : PKind) (n : Int) (inner : List PT) (m : Meas)
instance : Inhabited PT := ⟨.mk .rest 0 [] default⟩
def PT.k : PT → PKind | .mk k _ _ _ => k
def PT.n : PT → Int | .mk _ n _ _ => n
def PT.inner : PT → List PT | .mk _ _ ts _ => ts
def PT.m : PT → Meas | .mk _ _ _ m => m
def oV : Option Int → V
  | none => .non
  | some i => .int i
theorem oV_rep {F : Hp} {x : Option Int} : oR iR F (oV x) x := by cases x <;> exact rfl
def pextra : PKind → Int → List (Str × V)
  | .tone, n => [("pitch", .int n)]
  | .rep, n => [("many", .int n)]
  | .shift, n => [("by", .int n)]
  | .stretch, n => [("by", .int n)]
  | _, _ => []
def pflds (k : PKind) (n : Int) (l : Addr) (m : Meas) : List (Str × V) :=
  ("inner", .ref l) :: ("long", .int m.cells) :: ("written", .int m.leaves) :: ("held", .int m.size) :: ("deep", .int m.depth) :: ("low", oV m.low) :: ("high", oV m.high) :: pextra k n
inductive PR (pc : PKind → Addr) (F : Hp) : V → PT → Prop
  | mk {p dx l : Addr} {vs : List V} {k : PKind} {n : Int} {ts : List PT} {m : Meas} : F p = some (.ins (pc k) dx (pflds k n l m)) → F l = some (.lst vs) → vs.length = ts.length → (∀ (i : Nat) (v : V) (t : PT), vs[i]? = some v → ts[i]? = some t → PR pc F v t) → PR pc F (.ref p) (.mk k n ts m)
abbrev pR (pc : PKind → Addr) : Rep PT := fun F v t => PR pc F v t
instance {pc : PKind → Addr} : Mono (pR pc) := ⟨fun {F F' v x} e h => by
  induction h with
  | mk h1 h2 h3 _ ih => exact .mk (e.ins h1) (e.lst h2) h3 ih⟩
theorem A2.of_get {α β : Type} {p : α → β → Prop} : ∀ {as : List α} {bs : List β}, as.length = bs.length → (∀ (i : Nat) (a : α) (b : β), as[i]? = some a → bs[i]? = some b → p a b) → A2 p as bs
  | [], [], _, _ => .nil
  | [], _ :: _, h, _ => by simp at h
  | _ :: _, [], h, _ => by simp at h
  | a :: as, b :: bs, h, f => .cons (f 0 a b rfl rfl) (A2.of_get (by simpa using h) fun i x y hx hy => f (i + 1) x y (by simpa using hx) (by simpa using hy))
theorem PR.at {pc : PKind → Addr} {F : Hp} {v : V} {t : PT} (h : PR pc F v t) : ∃ p dx l vs, v = .ref p ∧ F p = some (.ins (pc t.k) dx (pflds t.k t.n l t.m)) ∧ F l = some (.lst vs) ∧ A2 (pR pc F) vs t.inner := by
  cases h with
  | mk h1 h2 h3 h4 => exact ⟨_, _, _, _, rfl, h1, h2, A2.of_get h3 h4⟩
theorem PR.of {pc : PKind → Addr} {F : Hp} {p dx l : Addr} {vs : List V} {k : PKind} {n : Int} {ts : List PT} {m : Meas} (h1 : F p = some (.ins (pc k) dx (pflds k n l m))) (h2 : F l = some (.lst vs)) (h : A2 (pR pc F) vs ts) : PR pc F (.ref p) (.mk k n ts m) :=
  .mk h1 h2 h.len fun i v t hv ht => by
    obtain ⟨a, ha, hp⟩ := h.get ht
    rw [hv] at ha; cases ha; exact hp
instance {pc : PKind → Addr} : NotN (pR pc) := ⟨fun h => by cases h; intro z; cases z⟩
def partNames : List Str := ["inner", "long", "written", "held", "deep", "low", "high", "pitch", "many", "by"]
/-- what the parts' classes say -/
structure PCls (K : PySem.W.Frag) (pc : PKind → Addr) : Prop where
  c : ∀ k, Cls K (pc k)
  n : ∀ k, ∀ f ∈ partNames, NoAttr K (pc k) f
section
variable [Lams] {X : Cx} {σ : L2.St} {F M H : Hp} {a b c e o : Expr} {es : List Expr} {pos p p1 p2 apos : Pos} {α β : Type} {r : Rep α} {n f : Str} {k : Nat} {rest : List Stmt} {D : Ends} {pc : PKind → Addr}
/-- e.f -/
theorem ev_fld {Φ : Hp → V → Prop} (he : Ev X e σ F M fun F u => ∃ a C dx fs v, u = .ref a ∧ F a = some (.ins C dx fs) ∧ Cls X.K C ∧ NoAttr X.K C f ∧ fs.lookup f = some v ∧ Φ F v) (hb : attributeBase e f X.env (eval e X.env) = eval e X.env := by rfl) : Ev X (.Attribute e f pos) σ F M Φ :=
  fun F1 H1 s w Q q => we_of (pe_fld (pe_w e) hb) (he F1 H1 s w _ fun F2 H2 v s2 w2 ⟨a, C, dx, fs, u, e1, h1, c1, n1, l1, h⟩ => ⟨a, C, dx, fs, u, e1, w2.f _ _ h1, c1, n1, l1, q F2 H2 u s2 w2 h⟩)
theorem ev_inner {t : PT} (T : PCls X.K pc) (he : EvF X e σ F M (pR pc) t) (hb : attributeBase e "inner" X.env (eval e X.env) = eval e X.env := by rfl) : EvF X (.Attribute e "inner" pos) σ F M (lR (pR pc)) t.inner :=
  ev_fld (he.imp fun F v h => let ⟨p, dx, l, vs, e1, h1, h2, h3⟩ := PR.at h; ⟨p, _, dx, _, .ref l, e1, h1, T.c _, T.n _ _ (by decide), rfl, l, vs, rfl, h2, h3⟩) hb
theorem ev_long {t : PT} (T : PCls X.K pc) (he : EvF X e σ F M (pR pc) t) (hb : attributeBase e "long" X.env (eval e X.env) = eval e X.env := by rfl) : EvF X (.Attribute e "long" pos) σ F M iR t.m.cells :=
  ev_fld (he.imp fun F v h => let ⟨p, dx, l, vs, e1, h1, h2, h3⟩ := PR.at h; ⟨p, _, dx, _, _, e1, h1, T.c _, T.n _ _ (by decide), rfl, rfl⟩) hb
theorem ev_written {t : PT} (T : PCls X.K pc) (he : EvF X e σ F M (pR pc) t) (hb : attributeBase e "written" X.env (eval e X.env) = eval e X.env := by rfl) : EvF X (.Attribute e "written" pos) σ F M iR t.m.leaves :=
  ev_fld (he.imp fun F v h => let ⟨p, dx, l, vs, e1, h1, h2, h3⟩ := PR.at h; ⟨p, _, dx, _, _, e1, h1, T.c _, T.n _ _ (by decide), rfl, rfl⟩) hb
theorem ev_held {t : PT} (T : PCls X.K pc) (he : EvF X e σ F M (pR pc) t) (hb : attributeBase e "held" X.env (eval e X.env) = eval e X.env := by rfl) : EvF X (.Attribute e "held" pos) σ F M iR t.m.size :=
  ev_fld (he.imp fun F v h => let ⟨p, dx, l, vs, e1, h1, h2, h3⟩ := PR.at h; ⟨p, _, dx, _, _, e1, h1, T.c _, T.n _ _ (by decide), rfl, rfl⟩) hb
theorem ev_deep {t : PT} (T : PCls X.K pc) (he : EvF X e σ F M (pR pc) t) (hb : attributeBase e "deep" X.env (eval e X.env) = eval e X.env := by rfl) : EvF X (.Attribute e "deep" pos) σ F M iR t.m.depth :=
  ev_fld (he.imp fun F v h => let ⟨p, dx, l, vs, e1, h1, h2, h3⟩ := PR.at h; ⟨p, _, dx, _, _, e1, h1, T.c _, T.n _ _ (by decide), rfl, rfl⟩) hb
theorem ev_low {t : PT} (T : PCls X.K pc) (he : EvF X e σ F M (pR pc) t) (hb : attributeBase e "low" X.env (eval e X.env) = eval e X.env := by rfl) : EvF X (.Attribute e "low" pos) σ F M (oR iR) t.m.low :=
  ev_fld (he.imp fun F v h => let ⟨p, dx, l, vs, e1, h1, h2, h3⟩ := PR.at h; ⟨p, _, dx, _, _, e1, h1, T.c _, T.n _ _ (by decide), rfl, oV_rep⟩) hb
theorem ev_high {t : PT} (T : PCls X.K pc) (he : EvF X e σ F M (pR pc) t) (hb : attributeBase e "high" X.env (eval e X.env) = eval e X.env := by rfl) : EvF X (.Attribute e "high" pos) σ F M (oR iR) t.m.high :=
  ev_fld (he.imp fun F v h => let ⟨p, dx, l, vs, e1, h1, h2, h3⟩ := PR.at h; ⟨p, _, dx, _, _, e1, h1, T.c _, T.n _ _ (by decide), rfl, oV_rep⟩) hb
theorem ev_pitch {t : PT} (T : PCls X.K pc) (he : EvF X e σ F M (pR pc) t) (hk : t.k = .tone) (hb : attributeBase e "pitch" X.env (eval e X.env) = eval e X.env := by rfl) : EvF X (.Attribute e "pitch" pos) σ F M iR t.n :=
  ev_fld (he.imp fun F v h => let ⟨p, dx, l, vs, e1, h1, h2, h3⟩ := PR.at h; ⟨p, _, dx, _, _, e1, h1, T.c _, T.n _ _ (by decide), by rw [hk]; rfl, rfl⟩) hb
theorem ev_many {t : PT} (T : PCls X.K pc) (he : EvF X e σ F M (pR pc) t) (hk : t.k = .rep) (hb : attributeBase e "many" X.env (eval e X.env) = eval e X.env := by rfl) : EvF X (.Attribute e "many" pos) σ F M iR t.n :=
  ev_fld (he.imp fun F v h => let ⟨p, dx, l, vs, e1, h1, h2, h3⟩ := PR.at h; ⟨p, _, dx, _, _, e1, h1, T.c _, T.n _ _ (by decide), by rw [hk]; rfl, rfl⟩) hb
theorem ev_by {t : PT} (T : PCls X.K pc) (he : EvF X e σ F M (pR pc) t) (hk : t.k = .shift ∨ t.k = .stretch) (hb : attributeBase e "by" X.env (eval e X.env) = eval e X.env := by rfl) : EvF X (.Attribute e "by" pos) σ F M iR t.n :=
  ev_fld (he.imp fun F v h => let ⟨p, dx, l, vs, e1, h1, h2, h3⟩ := PR.at h; ⟨p, _, dx, _, _, e1, h1, T.c _, T.n _ _ (by decide), by rcases hk with hk | hk <;> (rw [hk]; rfl), rfl⟩) hb
/-! methods without arguments -/
theorem ev_pmeth {fd : FuncData} {ps : List Str} {fa : Addr} {pre : PT × Unit → Prop} {R : PT × Unit → Hp → V → Prop} {t : PT} (T : PCls X.K pc) (hm : Meth X.K (pc t.k) n fa) (G : FnOk X.prog X.w X.K X.mg X.base CX0 k fa fd ps (FSp (ac (pR pc) an) pre R)) (hr : Room k X.A) (hb : Binds X.K fd ps [])
    (he : EvF X o σ F M (pR pc) t) (hp : pre (t, ())) (hn : ∀ (k : PKind) (i : Int) (l : Addr) (m : Meas), (pflds k i l m).lookup n = none := by intro k i l m; cases k <;> rfl) {pl : Sem Bool}
    (ht : eval (.Call (.Attribute o n apos) [] [] pos) X.env = (do
      let ov ← eval o X.env
      standAt apos.atName
      let (f, first) ← holding [ov] (getMethod ov n pl)
      callWith pos f first (backTo pos (starEach [] X.env)) (backToKw pos (keywordEach [] X.env))) := by rfl) :
    Ev X (.Call (.Attribute o n apos) [] [] pos) σ F M (R (t, ())) :=
  fun F1 H1 s w Q q => we_of (pe_meth0 (pl := pl) (pe_w o) (T.c _) hm G hr hb .nil pass0 ht) (he F1 H1 s w _ fun F2 H2 v s2 w2 hv => by
    obtain ⟨p, dx, l, vs, e1, h1, h2, h3⟩ := PR.at hv
    exact ⟨p, dx, _, e1, w2.f _ _ h1, hn _ _ _ _, F2, M, (t, ()), ⟨v, [], by rw [e1]; rfl, hv, rfl⟩, hp, w2, fun F3 H3 u s3 w3 h => q F3 H3 u (s2.trans s3) w3 h⟩)
theorem en_pmeth {fd : FuncData} {ps : List Str} {fa : Addr} {pre : PT × Unit → Prop} {R : PT × Unit → List α → Prop} {t : PT} (T : PCls X.K pc) (hm : Meth X.K (pc t.k) n fa) (G : FnOk X.prog X.w X.K X.mg X.base CX0 k fa fd ps (FSpN (ac (pR pc) an) pre r R)) (hr : Room k X.A) (hb : Binds X.K fd ps [])
    (he : EvF X o σ F M (pR pc) t) (hp : pre (t, ())) (hn : ∀ (k : PKind) (i : Int) (l : Addr) (m : Meas), (pflds k i l m).lookup n = none := by intro k i l m; cases k <;> rfl) {pl : Sem Bool}
    (ht : eval (.Call (.Attribute o n apos) [] [] pos) X.env = (do
      let ov ← eval o X.env
      standAt apos.atName
      let (f, first) ← holding [ov] (getMethod ov n pl)
      callWith pos f first (backTo pos (starEach [] X.env)) (backToKw pos (keywordEach [] X.env))) := by rfl) :
    EvNP X (.Call (.Attribute o n apos) [] [] pos) σ F M r (R (t, ())) :=
  fun F1 H1 s w Q q => we_of (pe_meth0 (pl := pl) (pe_w o) (T.c _) hm G hr hb .nil pass0 ht) (he F1 H1 s w _ fun F2 H2 v s2 w2 hv => by
    obtain ⟨p, dx, l, vs, e1, h1, h2, h3⟩ := PR.at hv
    exact ⟨p, dx, _, e1, w2.f _ _ h1, hn _ _ _ _, F2, M, (t, ()), ⟨v, [], by rw [e1]; rfl, hv, rfl⟩, hp, w2, fun F3 H3 l vs ys s3 w3 n1 n2 hh h2 h3 => q F3 H3 l vs ys (s2.trans s3) w3 n1 n2 hh h2 h3⟩)
end
/-! ### making an instance -/
/-- an __init__'s promise: self is new and one's own, of a class of PC; at the end its attributes are fs -/
def FSpI [Lams] {α : Type} (PC : Addr → Prop) (A : AR α) (pre : α → Prop) (post : α → Hp → List (Str × V) → Prop) (Rx : α → Hp → Value → Option Addr → Prop) : Sp := fun vs H Q E => ∃ F M C x dx us a, vs = .ref x :: us ∧ A F us a ∧ pre a ∧ PC C ∧ dx ≠ x ∧ M x = none ∧ M dx = none ∧ Own F (upd (upd M dx (.own x)) x (.ins C dx [])) H ∧
  (∀ F2 H2 fs, Same F F2 → Own F2 (upd (upd M dx (.own x)) x (.ins C dx fs)) H2 → post a F2 fs → Q .non H2) ∧ ∀ F2 H2 c d, Same F F2 → Own F2 M H2 → Rx a F2 c d → E c d H2
section
variable [Lams] {X : Cx} {σ : L2.St} {F M H : Hp} {a b c e o : Expr} {es : List Expr} {pos p p1 p2 apos : Pos} {α β : Type} {r : Rep β} {n f : Str} {k : Nat} {rest : List Stmt} {D : Ends} {W : WX}
/-- C(e, ..), where its __init__ may raise -/
def tMkS (C : Addr) (sp : Sp) (E : L2.St → XK) (t : TA) : TE := fun σ H Q => t σ H fun vs H1 => ∀ x dx, H1 x = none → H1 dx = none → dx ≠ x → sp (.ref x :: vs) (upd (upd H1 dx (.own x)) x (.ins C dx [])) (fun v H2 => v = .non ∧ Q (.ref x) H2) (E σ)
omit [Lams] in
theorem pe_mkS {CX : CXT} {fd : FuncData} {ps : List Str} {sp : Sp} {E : L2.St → XK} {C g : Addr} {t : TA} (K0 : Mk X.K C g) (G : FnOk X.prog X.w X.K X.mg X.base CX k g fd ps sp) (hr : Room (k + 1) X.A) (hg : Gl X n) (hm : X.mg n = some (.ref C)) (hb : Binds X.K fd ps []) (hx : ∀ σ, PassesAt CX X σ (E σ))
    (ha : PA X (e :: es) t) (hdb : (n == ("__debug__" : Str)) = false := by decide) (he : starEach (e :: es) X.env = (false, eval e X.env) :: starEach es X.env := by rfl) (hpl : (backTo pos (starEach es X.env)).any (·.1) = false := by rfl) :
    PE X (.Call (.Name n p) (e :: es) [] pos) (tMkS C sp E t) := by
  refine ⟨fun pins s σ H Q I h => wpAny_Call_Name_kw (ld_glob I hg hm ?_ hdb)⟩
  refine PySem.W.callWith_K (h₀ := X.base) I.ok.mod.kin K0.kp (L2.thn (ha.run pos pins s σ H _ I h) fun ws s1 ⟨vs, J, I1, rv, q⟩ => ⟨I1.kIn, ?_⟩) he hpl
  have q1 := q (s1.heap.objs.size + 1) s1.heap.objs.size (I1.hok.fresh (Nat.le_succ _)) (I1.hok.fresh (Nat.le_refl _)) (Nat.ne_of_lt (Nat.lt_succ_self _))
  have I2 := Inv.made (C := C) I1
  have r3 : Vals (V.ref (s1.heap.objs.size + 1) :: vs) (Value.ref (s1.heap.objs.size + 1) :: ws) := .cons rfl rv
  have hl : (Value.ref (s1.heap.objs.size + 1) :: ws ++ []).length = ps.length := by
    rw [List.append_nil, ← r3.length]; exact G.len _ _ _ _ q1
  have hbd := hb _ (Value.ref (s1.heap.objs.size + 1) :: ws) I2.kIn hl
  rw [List.append_nil] at hbd
  refine wpAny_call (make_map (f := g) I1.kIn K0.makes K0.init (beq_iff_eq.mp K0.fn) (codeAny_mono (G.run _ X.stack _ _ ⟨Value.ref (s1.heap.objs.size + 1) :: ws, []⟩ (Value.ref (s1.heap.objs.size + 1) :: ws) _ _ (E σ) (hr.make C ws [])
    (I2.env0.make C ws []) hbd r3 q1) fun fin s2 z => ?_))
  cases fin with
  | error e2 => exact hx σ pins _ _ e2 s2 I2 z
  | ok fl =>
    cases fl with
    | ret u =>
      obtain ⟨y, J2, I3, ry, ey, q3⟩ := I2.after z
      subst ey
      exact ⟨ry, V.ref (s1.heap.objs.size + 1), J2, I3, rfl, q3⟩
    | next => exact z.elim
    | brk => exact z.elim
    | cont => exact z.elim
theorem own_made {F M H : Hp} {x dx C : Addr} {fs : List (Str × V)} (w : Own F M H) (hx : H x = none) (hd : H dx = none) (ne : dx ≠ x) : Own F (upd (upd M dx (.own x)) x (.ins C dx fs)) (upd (upd H dx (.own x)) x (.ins C dx fs)) :=
  (w.newM hd).newM (by rw [upd_ne ne.symm]; exact hx)
theorem own_done {F M H : Hp} {x dx C : Addr} {fs : List (Str × V)} (w : Own F (upd (upd M dx (.own x)) x (.ins C dx fs)) H) (hx : M x = none) (hd : M dx = none) (ne : dx ≠ x) : Own (upd F x (.ins C dx fs)) M H :=
  (w.fz1 (by rw [upd_ne ne.symm]; exact hx)).lessM (same_new hd)
theorem ev_make {A : AR α} {fd : FuncData} {ps : List Str} {C g : Addr} {PC : Addr → Prop} {pre : α → Prop} {post : α → Hp → List (Str × V) → Prop} {Rx : α → Hp → Value → Option Addr → Prop} {x : α} {y : β} (tk : Takes X W) (K0 : Mk X.K C g) (G : FnOk X.prog X.w X.K X.mg X.base (L2.CX X.prog X.w) k g fd ps (FSpI PC A pre post Rx)) (hr : Room (k + 1) X.A) (hm : X.mg n = some (.ref C)) (hb : Binds X.K fd ps [])
    (hC : PC C) (ha : EvA X (e :: es) σ F M fun F vs => A F vs x) (hp : pre x) (hx : ∀ F2 H2 c d, Same F F2 → Own F2 M H2 → Rx x F2 c d → W c d σ H2)
    (hq : ∀ F2 q dx fs, F2 q = some (.ins C dx fs) → (∃ F0, Same F0 F2 ∧ post x F0 fs) → r F2 (.ref q) y)
    (hg : Gl X n := by rfl) (hdb : (n == ("__debug__" : Str)) = false := by decide) (he : starEach (e :: es) X.env = (false, eval e X.env) :: starEach es X.env := by rfl) (hpl : (backTo pos (starEach es X.env)).any (·.1) = false := by rfl) :
    EvF X (.Call (.Name n p) (e :: es) [] pos) σ F M r y :=
  fun F1 H1 s w Q q => we_of (pe_mkS K0 G hr hg hm hb (fun σ => passAt tk σ) (pa_w (e :: es)) hdb he hpl) (ha F1 H1 s w _ fun F2 H2 vs s2 w2 hv z dz nx nd ne =>
    ⟨F2, M, C, z, dz, vs, x, rfl, hv, hp, hC, ne, w2.noM nx, w2.noM nd, own_made w2 nx nd ne, fun F3 H3 fs s3 w3 h => ⟨rfl, by
      have hz : F3 z = none := w3.d z _ upd_same
      refine q (upd F3 z (.ins C dz fs)) H3 _ ((s2.trans s3).trans (same_new hz)) (own_done w3 (w2.noM nx) (w2.noM nd) ne) (hq _ z dz fs upd_same ⟨F3, same_new hz, h⟩)⟩, fun F3 H3 c d s3 w3 h => hx F3 H3 c d ((s.trans s2).trans s3) w3 h⟩)
/-- a class of one's own whose function is told by its name: B.__init__(self, ..) -/
structure BaseF (K : PySem.W.Frag) (B : Addr) (mc : Value) (m : Str) (g : Addr) : Prop where
  sp : PySem.W.specialIn K (.ref B) "__getattribute__" = some (some (.builtin "type.__getattribute__"))
  rd : PySem.W.readsIn K B mc = true
  fd : PySem.W.findCls K (.ref B) mc m = some (.val (.ref g))
  kp : PySem.W.keepIn K (.ref g) = true
omit [Lams] in
theorem pe_cmeth {CX : CXT} {fd : FuncData} {ps : List Str} {sp : Sp} {E : L2.St → XK} {B g : Addr} {mc : Value} {m : Str} {t : TA} {pl : Sem Bool} (T : BaseF X.K B mc m g) (G : FnOk X.prog X.w X.K X.mg X.base CX k g fd ps sp) (hr : Room k X.A) (hg : Gl X n) (hm : X.mg n = some (.ref B)) (hb : Binds X.K fd ps []) (hx : ∀ σ, PassesAt CX X σ (E σ))
    (ha : PA X (e :: es) t) (hdb : (n == ("__debug__" : Str)) = false := by decide)
    (hc : eval (.Call (.Attribute (.Name n p1) m p2) (e :: es) [] pos) X.env = (do
      let ov ← eval (.Name n p1) X.env
      standAt p2.atName
      let (f, first) ← holding [ov] (getMethod ov m pl)
      callWith pos f first (backTo pos (starEach (e :: es) X.env)) (backToKw pos (keywordEach [] X.env))) := by rfl)
    (he : starEach (e :: es) X.env = (false, eval e X.env) :: starEach es X.env := by rfl) (hpl : (backTo pos (starEach es X.env)).any (·.1) = false := by rfl) :
    PE X (.Call (.Attribute (.Name n p1) m p2) (e :: es) [] pos) (tCallS sp E t) := by
  refine ⟨fun pins s σ H Q I h => PySem.W.methodCall_KW (ld_glob I hg hm ?_ hdb) hc⟩
  refine PySem.W.method_cls I.kIn T.sp (PySem.W.cls_value I.kIn T.rd T.fd rfl ?_)
  show wpAny _ _ (callWith pos (Value.ref g) [] (backTo pos (starEach (e :: es) X.env)) []) _ _ _
  refine PySem.W.callWith_K (h₀ := X.base) I.ok.mod.kin T.kp (L2.thn (ha.run pos pins _ σ H _ (I.tok _) h) fun ws s1 ⟨vs, J, I1, rv, q⟩ => ⟨I1.kIn, ?_⟩) he hpl
  exact run_fnS G hr hb (hx σ) I1 rv q
/-- B.__init__(self, e, ..) where self has no attributes yet -/
theorem ss_pinit {A : AR α} {fd : FuncData} {ps : List Str} {B g : Addr} {mc : Value} {PC : Addr → Prop} {pre : α → Prop} {post : α → Hp → List (Str × V) → Prop} {Rx : α → Hp → Value → Option Addr → Prop} {x : α} {q dx C : Addr} {sn : Str} {ps1 : Pos} (i : Nat) (tk : Takes X W) (T : BaseF X.K B mc "__init__" g) (G : FnOk X.prog X.w X.K X.mg X.base (L2.CX X.prog X.w) k g fd ps (FSpI PC A pre post Rx)) (hr : Room k X.A) (hm : X.mg n = some (.ref B)) (hb : Binds X.K fd ps [])
    (hs : σ[i]? = some (some (.ref q))) (hC : PC C) (ne : dx ≠ q) (nq : M q = none) (nd : M dx = none) (ha : EvA X es σ F (upd (upd M dx (.own q)) q (.ins C dx [])) fun F vs => A F vs x) (w : Own F (upd (upd M dx (.own q)) q (.ins C dx [])) H) (hp : pre x) (hx : ∀ F2 H2 c d, Same F F2 → Own F2 M H2 → Rx x F2 c d → W c d σ H2)
    (kk : ∀ F2 H2 fs, Same F F2 → Own F2 (upd (upd M dx (.own q)) q (.ins C dx fs)) H2 → post x F2 fs → WSs X rest D σ H2)
    (hN : X.N[i]? = some sn := by rfl) (hv : Vis X.env.scope sn := by first | exact Or.inl rfl | exact Or.inr (Or.inl rfl) | exact Or.inr (Or.inr rfl)) (hd : (sn == ("__debug__" : Str)) = false := by decide) (hcd : (sn == ("__classdict__" : Str)) = false := by decide)
    (hg : Gl X n := by rfl) (hdb : (n == ("__debug__" : Str)) = false := by decide) {pl : Sem Bool}
    (hc : eval (.Call (.Attribute (.Name n p1) "__init__" p2) (.Name sn ps1 :: es) [] p) X.env = (do
      let ov ← eval (.Name n p1) X.env
      standAt p2.atName
      let (f, first) ← holding [ov] (getMethod ov "__init__" pl)
      callWith p f first (backTo p (starEach (.Name sn ps1 :: es) X.env)) (backToKw p (keywordEach [] X.env))) := by rfl)
    (he : starEach (.Name sn ps1 :: es) X.env = (false, eval (.Name sn ps1) X.env) :: starEach es X.env := by rfl) (hpl : (backTo p (starEach es X.env)).any (·.1) = false := by rfl)
    (hsw : swapsWith (.Call (.Attribute (.Name n p1) "__init__" p2) (.Name sn ps1 :: es) [] p) none pos.line X.env = pure false := by rfl) :
    WSs X (.Expr (.Call (.Attribute (.Name n p1) "__init__" p2) (.Name sn ps1 :: es) [] p) pos :: rest) D σ H :=
  wss_cons (ws_of (ps_expr (pe_cmeth (pl := pl) T G hr hg hm hb (fun σ => passAt tk σ) (pa_cons (pe_var hN hv hd hcd) (pa_w es) he) hdb hc he hpl) hsw)
    ⟨_, hs, ha F H (Same.refl _) w _ fun F2 H2 vs s2 w2 hv => ⟨F2, M, C, q, dx, vs, x, rfl, hv, hp, hC, ne, nq, nd, w2, fun F3 H3 fs s3 w3 h => kk F3 H3 fs (s2.trans s3) w3 h, fun F3 H3 c d s3 w3 h => hx F3 H3 c d (s2.trans s3) w3 h⟩⟩)
/-- self.f = e -/
theorem ss_sfld {x : Addr} {C dx : Addr} {fs : List (Str × V)} {Φ : Hp → V → Prop} {sn : Str} {ps1 p3 : Pos} (i : Nat) (hs : σ[i]? = some (some (.ref x))) (hc : Cls X.K C) (hn : NoAttr X.K C f) (hM : M x = some (.ins C dx fs)) (he : Ev X e σ F M Φ) (w : Own F M H) (hl : fs.length < 1000)
    (kk : ∀ F2 M2 H2 v, Same F F2 → M2 = upd M x (.ins C dx (putF f v fs)) → Own F2 M2 H2 → Φ F2 v → WSs X rest D σ H2)
    (hN : X.N[i]? = some sn := by rfl) (hv : Vis X.env.scope sn := by first | exact Or.inl rfl | exact Or.inr (Or.inl rfl) | exact Or.inr (Or.inr rfl)) (hd : (sn == ("__debug__" : Str)) = false := by decide) (hcd : (sn == ("__classdict__" : Str)) = false := by decide)
    (hsw : swapsWith e (some (.Attribute (.Name sn ps1) f p3)) pos.line X.env = pure false := by rfl) :
    WSs X (.Assign [.Attribute (.Name sn ps1) f p3] e pos :: rest) D σ H :=
  wss_cons (ws_of (ps_fld (pe_var hN hv hd hcd) (pe_w e) hsw) (he F H (Same.refl _) w _ fun F2 H2 v s2 w2 hv => ⟨_, hs, x, C, dx, fs, rfl, w2.m _ _ hM, hc, hn, hl, kk F2 _ _ v s2 rfl (w2.put hM) hv⟩))
/-- self.f of what is one's own -/
theorem ev_sfld {x : Addr} {C dx : Addr} {fs : List (Str × V)} {v : V} {y : β} [m : Mono r] {sn : Str} {ps1 : Pos} (i : Nat) (hs : σ[i]? = some (some (.ref x))) (hc : Cls X.K C) (hn : NoAttr X.K C f) (hM : M x = some (.ins C dx fs)) (hl : fs.lookup f = some v) (hr : r F v y)
    (hN : X.N[i]? = some sn := by rfl) (hv : Vis X.env.scope sn := by first | exact Or.inl rfl | exact Or.inr (Or.inl rfl) | exact Or.inr (Or.inr rfl)) (hd : (sn == ("__debug__" : Str)) = false := by decide) (hcd : (sn == ("__classdict__" : Str)) = false := by decide)
    (hb : attributeBase (.Name sn ps1) f X.env (eval (.Name sn ps1) X.env) = eval (.Name sn ps1) X.env := by rfl) : EvF X (.Attribute (.Name sn ps1) f pos) σ F M r y :=
  fun F1 H1 s w Q q => we_of (pe_fld (pe_var hN hv hd hcd) hb) ⟨_, hs, x, C, dx, fs, v, rfl, w.m _ _ hM, hc, hn, hl, q F1 H1 v (Same.refl _) w (m.mono s hr)⟩
end
end Y

/-! ### exceptions that a suite holds; defs called there; a call as a statement -/
namespace Y
open PySem PySem.Spec PyProof.Rows L2
section
variable [Lams] {X : Cx} {σ : L2.St} {F M H : Hp} {a b c e o : Expr} {es : List Expr} {pos p p1 p2 apos : Pos} {α β : Type} {r : Rep α} {n f : Str} {k : Nat} {rest : List Stmt} {D : Ends}
/-- e, a call, as a statement -/
theorem ss_expr {Φ : Hp → V → Prop} (he : Ev X e σ F M Φ) (w : Own F M H) (kk : ∀ F2 H2, Same F F2 → Own F2 M H2 → WSs X rest D σ H2) (hsw : swapsWith e none pos.line X.env = pure false := by rfl) : WSs X (.Expr e pos :: rest) D σ H :=
  wss_cons (ws_of (ps_expr (pe_w e) hsw) (he F H (Same.refl _) w _ fun F2 H2 v s2 w2 _ => kk F2 H2 s2 w2))
/-- .. of which something is known behind it -/
theorem ss_exprP {Φ : Hp → V → Prop} {P : Prop} (he : Ev X e σ F M Φ) (hP : ∀ F v, Φ F v → P) (w : Own F M H) (kk : ∀ F2 H2, Same F F2 → Own F2 M H2 → P → WSs X rest D σ H2) (hsw : swapsWith e none pos.line X.env = pure false := by rfl) : WSs X (.Expr e pos :: rest) D σ H :=
  wss_cons (ws_of (ps_expr (pe_w e) hsw) (he F H (Same.refl _) w _ fun F2 H2 v s2 w2 hv => kk F2 H2 s2 w2 (hP _ _ hv)))
omit [Lams] in
/-- try: body except x as n: suite -/
theorem ss_tryA {x : Str} {cv : Value} {Wout : WX} {body suite : List Stmt} {b₀ : Stmt} {pos' np : Pos} (i : Nat) (hN : X.N.Nodup) (hs : X.stack = X.env :: X.outer) (hf : X.env.frame = some X.env.locals) (hc : Names X x cv) (tk : Takes X Wout)
    (hb : ∀ (W : WX) (pn : List (Addr × Obj)) (xe : Value → Shared → Prop), Takes (X.tr pn xe) W → PassesOwn (model X.prog X.w) X.A X.env xe →
      (∀ cls d σ' H', (∃ b, PySem.W.exmOne X.K cls cv = some b ∧ (b = true → ∀ a oe pn, H' a = none → Zc cls d oe → (∃ vs, oe.data = .fields vs) → WSs (X.suite a ((a, oe) :: pn)) (b₀ :: suite) { nx := fun σ2 H2 => (thn X rest D).nx (σ2.set i none) H2, rt := D.rt, bk := fun σ2 H2 => D.bk (σ2.set i none) H2, ct := fun σ2 H2 => D.ct (σ2.set i none) H2 } (σ'.set i (some (.ref a))) H') ∧ (b = false → Wout cls d σ' H')) → W cls d σ' H') →
      WSs (X.tr pn xe) body (thn X rest D) σ H)
    (hi : X.N[i]? = some n := by rfl) (hln : X.env.kindOf n = some .local := by rfl) :
    WSs X (.Try body [.ExceptHandler (some (.Name x np)) (some n) (b₀ :: suite) pos'] [] [] pos :: rest) D σ H :=
  wss_cons (ws_of (ps_try_as (tb := fun W D' σ' H' => ∀ pn xe, Takes (X.tr pn xe) W → PassesOwn (model X.prog X.w) X.A X.env xe → WSs (X.tr pn xe) body D' σ' H')
    (ts := fun a cls d D' σ' H' => ∀ oe pn, Zc cls d oe → (∃ vs, oe.data = .fields vs) → WSs (X.suite a ((a, oe) :: pn)) (b₀ :: suite) D' σ' H') hs hf hN hi hln hc tk
    (fun W pn xe t po => ⟨fun pins s σ' H' D' I h => h pn xe t po pins s I⟩) (fun a oe cls d pn hz hv => ⟨fun pins s σ' H' D' I h => h oe pn hz hv pins s I⟩))
    fun pn xe t po => hb _ pn xe t po fun cls d σ' H' ⟨b, h1, h2, h3⟩ => ⟨b, h1, fun q a n oe pn hz hv => h2 q a oe pn n hz hv, h3⟩)
/-! defs called while an exception is handled: p, the handled one's object, stands -/
structure FnHp (P : Program) (w : World) (K : PySem.W.Frag) (mg : Str → Option Value) (base : Heap) (k : Nat) (g : Addr) (fd : FuncData) (ps : List Str) (sp : Addr × Obj → Sp) : Prop where
  len : ∀ p vs H Q E, sp p vs H Q E → vs.length = ps.length
  run : ∀ (A : Around) (outer : List Env) (s : Shared) (H : Hp) (args : Args) (us : List Value) (vs : List V) (Q : VK) (E : XK) (p : Addr × Obj), L2H.RoomH k A → L2H.PinOk outer H s p → Env0 P w K mg base A outer s H → BindsTo s fd args (ps.zip us) → Vals vs us → sp p vs H Q E → codeAny (model P w) A (.call (.ref g) args) (CR CX0 outer P w H s Q E) s
omit [Lams] in
theorem ok_hot {P : Program} {w : World} {K : PySem.W.Frag} {mg : Str → Option Value} {base : Heap} {x qual : Str} {st : Stmt} {g : Addr} {fd : FuncData} {N ps : List Str} {sp : Addr × Obj → Sp} (F0 : Fun K x qual st g fd) (S : FnScope N ps (defScope st)) (len : ∀ p vs H Q E, sp p vs H Q E → vs.length = ps.length)
    (hbody : ∀ (cdv : Value) (A : Around) (outer : List Env) (s : Shared) (H : Hp) (vs : List V) (Q : VK) (E : XK) (p : Addr × Obj), L2H.RoomH k (A.deeper (envOfC qual (defScope st) s.heap.objs.size g cdv)) → sp p vs H Q E → WSs (L2H.cxH CX0 P w K mg base N qual (defScope st) g cdv A outer s H E p) (defBody st) { nx := fun _ H' => Q .non H', rt := Q } (start N vs) H) : FnHp P w K mg base (k + 1) g fd ps sp := by
  obtain ⟨oc, od, kV, doc, pm, an, cdv, ct, osl, rfl, lk, hcd⟩ := F0.ex
  refine ⟨len, fun A outer s H args us vs Q E p room pin e0 bnd rv z => ?_⟩
  have inK : K.In s.heap := e0.mod.kin.keeps fun b o e => (e0.bs b o e).1
  have nol : s.heap.NoLimit := e0.mod.nolimit.keeps fun b o e => (e0.bs b o e).1
  have kinds : ∀ y ∈ ps.zip us, (defScope st).names.lookup y.1 = some .local ∨ ((defScope st).names.lookup y.1 = some .cell ∧ ((cellsFrom (s.heap.objs.size + 1) (defScope st).names []).lookup y.1).isSome = true) := fun y hy =>
    (S.par y.1 (List.of_mem_zip (show (y.1, y.2) ∈ _ from hy)).1).imp id fun q => ⟨q, PySem.W.cellsFrom_some _ _ _ (.inl q)⟩
  refine codeAny_call_function room.depth (inK _ _ lk) rfl S.co S.gen rfl (PySem.W.codeRec_of inK hcd) (bnd _ _ _ _ (wpAny_newFunctionEnv_cells S.kind kinds fun env he s1 made => ?_))
  subst he
  refine ⟨nol.keeps made.toInCall.keep, codeAny_func ?_⟩
  have I0 : Inv (L2H.cxH CX0 P w K mg base N qual (defScope st) g cdv A outer s H E p) [] (start N vs) H s1 := L2H.inv_startH S pin e0 (len _ _ _ _ _ z) rv made
  refine wpAny_mono (hbody cdv A outer s H vs Q E p (room.deeper _) z [] s1 I0) (fun fl s2 out => ?_) fun e s2 out => out
  cases fl with
  | ret u =>
    obtain ⟨v, σ2, H2, J, rj, q⟩ := out
    exact ⟨v, H2, J.os, J.bare, J.base, J.hok, rj, q⟩
  | next =>
    obtain ⟨σ2, H2, J, q⟩ := out
    exact ⟨V.non, H2, J.os, J.bare, J.base, J.hok, rfl, q⟩
  | brk => obtain ⟨_, _, _, q⟩ := out; exact q.elim
  | cont => obtain ⟨_, _, _, q⟩ := out; exact q.elim
omit [Lams] in
theorem pe_hot {fd : FuncData} {ps : List Str} {g : Addr} {sp : Addr × Obj → Sp} {t : TA} {x : Addr × Obj} (G : FnHp X.prog X.w X.K X.mg X.base k g fd ps sp) (hr : L2H.RoomH k X.A) (hx : x ∈ X.pn) (hg : Gl X n) (hm : X.mg n = some (.ref g)) (hk : PySem.W.keepIn X.K (.ref g) = true) (hb : Binds X.K fd ps [])
    (ha : PA X (e :: es) t) (hdb : (n == ("__debug__" : Str)) = false := by decide) (he : starEach (e :: es) X.env = (false, eval e X.env) :: starEach es X.env := by rfl) (hpl : (backTo pos (starEach es X.env)).any (·.1) = false := by rfl) :
    PE X (.Call (.Name n p) (e :: es) [] pos) (fun σ H Q => t σ H fun vs H1 => sp x vs H1 Q fun _ _ _ => False) := by
  refine ⟨fun pins s σ H Q I h => wpAny_Call_Name_kw (ld_glob I hg hm ?_ hdb)⟩
  refine PySem.W.callWith_K (h₀ := X.base) I.ok.mod.kin hk (L2.thn (ha.run pos pins s σ H _ I h) fun us s1 ⟨vs, J, I1, rv, z⟩ => ⟨I1.kIn, ?_⟩) he hpl
  have hl : us.length = ps.length := (Vals.length rv).symm.trans (G.len _ _ _ _ _ z)
  have bnd := hb s1 us I1.kIn (by rw [List.append_nil]; exact hl)
  rw [List.append_nil] at bnd
  have hp := I1.pin x (List.mem_append_left _ hx)
  have pin : L2H.PinOk X.stack J s1 x := ⟨hp.1, hp.2.1, fun q => (List.mem_cons.mp (I1.stkSub x.1 q)).elim hp.2.2.1 hp.2.2.2.1, hp.2.2.2.2⟩
  refine wpAny_call (codeAny_mono (G.run X.A X.stack s1 J ⟨us, []⟩ us vs Q _ x hr pin I1.env0 bnd rv z) fun fin s2 out => ?_)
  cases fin with
  | error e2 => exact absurd out (by intro q; exact q)
  | ok fl =>
    cases fl with
    | ret u => exact I1.after out
    | next => exact out.elim
    | brk => exact out.elim
    | cont => exact out.elim
/-- f(n), n the name of the exception that the suite holds, f a def that tells a truth of it -/
theorem ev_hot {fd : FuncData} {ps : List Str} {g : Addr} {x : Addr × Obj} {Z : Addr × Obj → Prop} {y : Bool} {en : Str} {pe : Pos} (i : Nat) (G : FnHp X.prog X.w X.K X.mg X.base k g fd ps (fun x vs H Q _ => vs = [V.ref x.1] ∧ Z x ∧ ∃ F M, Own F M H ∧ ∀ F2 H2, Same F F2 → Own F2 M H2 → Q (.bl y) H2)) (hr : L2H.RoomH k X.A) (hx : x ∈ X.pn) (hm : X.mg n = some (.ref g)) (hk : PySem.W.keepIn X.K (.ref g) = true) (hb : Binds X.K fd ps [])
    (hZ : Z x) (hs : σ[i]? = some (some (.ref x.1))) (hg : Gl X n := by rfl) (hN : X.N[i]? = some en := by rfl) (hv : Vis X.env.scope en := by first | exact Or.inl rfl | exact Or.inr (Or.inl rfl) | exact Or.inr (Or.inr rfl)) (hd : (en == ("__debug__" : Str)) = false := by decide) (hcd : (en == ("__classdict__" : Str)) = false := by decide)
    (hdb : (n == ("__debug__" : Str)) = false := by decide) (he : starEach [.Name en pe] X.env = (false, eval (.Name en pe) X.env) :: starEach [] X.env := by rfl) (hpl : (backTo pos (starEach [] X.env)).any (·.1) = false := by rfl) : EvF X (.Call (.Name n p) [.Name en pe] [] pos) σ F M bR y :=
  fun F1 H1 s w Q q => we_of (pe_hot G hr hx hg hm hk hb (pa_cons (pe_var hN hv hd hcd) pa_nil he) hdb he hpl) ⟨_, hs, rfl, hZ, F1, M, w, fun F2 H2 s2 w2 => q F2 H2 _ s2 w2 rfl⟩
/-- isinstance(n, C), n the exception that is handled, of the class at B, without a dict -/
def rIsX (K : PySem.W.Frag) (B a : Addr) : List V → Hp → VK → Prop := fun xs H Q => ∃ (c : V) (cv : Value) (b : Bool), xs = [.ref a, c] ∧ (∀ u, RelV c u → u = cv) ∧ PySem.W.kitOne K (.ref B) cv = some b ∧ Q (.bl b) H
omit [Lams] in
theorem call_isX {x : Addr × Obj} {B : Addr} (C : ExcC X.K B) (hx : x ∈ X.pn) (hz : Zc (.ref B) none x.2) (hf : ∃ vs, x.2.data = .fields vs) : CallR X (.builtin "isinstance") (rIsX X.K B x.1) := by
  intro pins s σ H xs us Q I rv h
  obtain ⟨c, cv, b, rfl, hcv, e, q⟩ := h
  obtain ⟨u1, u2, rfl, r1, r2⟩ := vals2 rv
  obtain rfl : u1 = Value.ref x.1 := r1
  obtain rfl := hcv _ r2
  have hp := (I.pin x (List.mem_append_left _ hx)).1
  obtain ⟨vs, hd⟩ := hf
  have J : PySem.W.InstAt s.heap x.1 x.2 B none := ⟨hp, hz.1, by unfold PySem.W.notCls; rw [hd] <;> rfl, by rw [hz.2]; trivial⟩
  exact PySem.W.kia_one (PySem.W.handS_kitx_exc C.hg C.hk C.hs C.hd C.ha C.hn C.ht C.hm) I.kIn J e (fun z => nomatch z) fun tk => ⟨.bl b, H, I.kept (t' := tk) fun _ _ z => z, rfl, q⟩
theorem bx_isXo {x : Addr × Obj} {B C0 : Addr} {y : Bool} {cn en : Str} {pe pc' : Pos} (i : Nat) (C : ExcC X.K B) (hx : x ∈ X.pn) (hz : Zc (.ref B) none x.2) (hf : ∃ vs, x.2.data = .fields vs) (hm : X.mg "isinstance" = none) (hs : σ[i]? = some (some (.ref x.1)))
    (hcm : X.mg cn = some (.ref C0)) (hk : PySem.W.kitOne X.K (.ref B) (.ref C0) = some y) (hcg : Gl X cn := by rfl) (hcd2 : (cn == ("__debug__" : Str)) = false := by decide) (hg : Gl X "isinstance" := by rfl) (hN : X.N[i]? = some en := by rfl) (hv : Vis X.env.scope en := by first | exact Or.inl rfl | exact Or.inr (Or.inl rfl) | exact Or.inr (Or.inr rfl)) (hd : (en == ("__debug__" : Str)) = false := by decide) (hcd : (en == ("__classdict__" : Str)) = false := by decide)
    (he : starEach [.Name en pe, .Name cn pc'] X.env = (false, eval (.Name en pe) X.env) :: starEach [.Name cn pc'] X.env := by rfl) (he2 : starEach [.Name cn pc'] X.env = (false, eval (.Name cn pc') X.env) :: starEach [] X.env := by rfl) (hpl : (backTo pos (starEach [.Name cn pc'] X.env)).any (·.1) = false := by rfl)
    (ht : ∀ whole, isTrue (.Call (.Name "isinstance" p) [.Name en pe, .Name cn pc'] [] pos) X.env whole = (do let v ← whole; standAt (Expr.Call (.Name "isinstance" p) [.Name en pe, .Name cn pc'] [] pos).pos; holding [v] (truthy v)) := by intro _; rfl) : Bx X (.Call (.Name "isinstance" p) [.Name en pe, .Name cn pc'] [] pos) σ F M y :=
  bx_val (fun F1 H1 s w Q q => we_of (pe_callB (call_isX C hx hz hf) hg hm (by decide +kernel) (pa_cons (pe_var hN hv hd hcd) (pa_cons (pe_glob (v := .ref C0) hcg hcm rfl hcd2) pa_nil he2) he) (he := he) (hpl := hpl)) ⟨_, hs, .ref C0, .ref C0, y, rfl, fun u z => z, hk, q F1 H1 _ (Same.refl _) w rfl⟩) ht
theorem bx_isXb {x : Addr × Obj} {B : Addr} {y : Bool} {S : String} {cn en : Str} {pe pc' : Pos} (i : Nat) (C : ExcC X.K B) (hx : x ∈ X.pn) (hz : Zc (.ref B) none x.2) (hf : ∃ vs, x.2.data = .fields vs) (hm : X.mg "isinstance" = none) (hs : σ[i]? = some (some (.ref x.1)))
    (hcm : X.mg cn = none) (hb : bootBuiltins cn = some (.type S)) (hk : PySem.W.kitOne X.K (.ref B) (.type S) = some y) (hcg : Gl X cn := by rfl) (hcd2 : (cn == ("__debug__" : Str)) = false := by decide) (hcn : cn ≠ "__name__" := by decide) (hg : Gl X "isinstance" := by rfl) (hN : X.N[i]? = some en := by rfl) (hv : Vis X.env.scope en := by first | exact Or.inl rfl | exact Or.inr (Or.inl rfl) | exact Or.inr (Or.inr rfl)) (hd : (en == ("__debug__" : Str)) = false := by decide) (hcd : (en == ("__classdict__" : Str)) = false := by decide)
    (he : starEach [.Name en pe, .Name cn pc'] X.env = (false, eval (.Name en pe) X.env) :: starEach [.Name cn pc'] X.env := by rfl) (he2 : starEach [.Name cn pc'] X.env = (false, eval (.Name cn pc') X.env) :: starEach [] X.env := by rfl) (hpl : (backTo pos (starEach [.Name cn pc'] X.env)).any (·.1) = false := by rfl)
    (ht : ∀ whole, isTrue (.Call (.Name "isinstance" p) [.Name en pe, .Name cn pc'] [] pos) X.env whole = (do let v ← whole; standAt (Expr.Call (.Name "isinstance" p) [.Name en pe, .Name cn pc'] [] pos).pos; holding [v] (truthy v)) := by intro _; rfl) : Bx X (.Call (.Name "isinstance" p) [.Name en pe, .Name cn pc'] [] pos) σ F M y :=
  bx_val (fun F1 H1 s w Q q => we_of (pe_callB (call_isX C hx hz hf) hg hm (by decide +kernel) (pa_cons (pe_var hN hv hd hcd) (pa_cons (pe_bltn (v := .ty S) hcg hcm hb rfl hcn hcd2) pa_nil he2) he) (he := he) (hpl := hpl)) ⟨_, hs, .ty S, .type S, y, rfl, fun u z => z, hk, q F1 H1 _ (Same.refl _) w rfl⟩) ht
end
/-! ### texts: str(n), x + y -/
theorem okS_iff {x : Str} : PyData.canLay0 (.str x) = true ↔ ∀ c ∈ TL.tl x, c < 0x110000 := by
  show PyData.strOk x = true ↔ _
  unfold PyData.strOk TL.tl
  rw [Array.all_eq_true_iff_forall_mem]
  simp only [Array.mem_toList_iff, decide_eq_true_eq]
theorem ok_app {x y : Str} (h1 : PyData.canLay0 (.str x) = true) (h2 : PyData.canLay0 (.str y) = true) : PyData.canLay0 (.str (x ++ y)) = true := by
  rw [okS_iff] at *
  intro c hc
  rw [TL.tl_append] at hc
  rcases List.mem_append.mp hc with hc | hc
  · exact h1 c hc
  · exact h2 c hc
/-- a number's text -/
def numT (i : Int) : Str := Str.ofString (toString i)
theorem ok_num (i : Int) : PyData.canLay0 (.str (numT i)) = true := by
  rw [okS_iff]
  intro c hc
  unfold numT at hc
  rw [TL.tl_ofString] at hc
  obtain ⟨ch, h1, rfl⟩ := List.mem_map.mp hc
  have := int_ascii i ch h1
  omega
section
variable [Lams] {X : Cx} {σ : L2.St} {F M H : Hp} {a b c e o : Expr} {es : List Expr} {pos p p1 p2 apos : Pos} {α β : Type} {r : Rep α} {n f : Str} {k : Nat} {rest : List Stmt} {D : Ends}
theorem ev_strI {i : Int} (hm : X.mg "str" = none) (ha : EvF X a σ F M iR i) (hz : i.natAbs.log2 < 1920) (hg : Gl X "str" := by rfl) (he : starEach [a] X.env = (false, eval a X.env) :: starEach [] X.env := by rfl) (hpl : (backTo pos (starEach [] X.env)).any (·.1) = false := by rfl) :
    EvF X (.Call (.Name "str" p) [a] [] pos) σ F M sR (numT i) :=
  fun F1 H1 s w Q q => we_of (pe_callTy call_str_int hg hm (by decide +kernel) (pa_cons (pe_w a) pa_nil he) (he := he) (hpl := hpl)) (ha F1 H1 s w _ fun F2 H2 v s2 w2 hv => ⟨i, by rw [show v = V.int i from hv], hz, q F2 H2 _ s2 w2 ⟨rfl, ok_num i⟩⟩)
theorem ev_catS {x y : Str} (ha : EvF X a σ F M sR x) (hb : EvF X b σ F M sR y) (hz : x.length + y.length ≤ 1000000) : EvF X (.BinOp a .Add b pos) σ F M sR (x ++ y) :=
  fun F1 H1 s w Q q => we_of (pe_op op_add_str (pe_w a) (pe_w b)) (ha F1 H1 s w _ fun F2 H2 v s2 w2 hv => hb F2 H2 (s.trans s2) w2 _ fun F3 H3 u s3 w3 hu => ⟨x, y, hv.1, hu.1, Nat.le_trans hz (by decide), q F3 H3 _ (s2.trans s3) w3 ⟨rfl, ok_app hv.2 hu.2⟩⟩)
omit [Lams] in
theorem flat_bls : ∀ xs : List Bool, (xs.map V.bl).all flatV = true
  | [] => rfl
  | _ :: t => flat_bls t
omit [Lams] in
theorem inV_bls (i : Bool) : ∀ xs : List Bool, inV (.bl i) (xs.map V.bl) = decide (i ∈ xs)
  | [] => by simp [inV]
  | x :: t => by
    have ih := inV_bls i t
    unfold inV at *
    rw [List.map_cons, List.any_cons, ih]
    cases i <;> cases x <;> simp [eqV]
omit [Lams] in
theorem bR_map {F : Hp} {vs : List V} {xs : List Bool} (h : A2 (bR F) vs xs) : vs = xs.map V.bl := A2.eq_map (f := V.bl) h
theorem bx_inB {i : Bool} {xs : List Bool} (ha : EvF X a σ F M bR i) (hb : EvF X b σ F M (rdR X.K M bR) xs) (hm : behindInMarks .In b = false := by rfl) : Bx X (.Compare a [.In] [b] pos) σ F M (decide (i ∈ xs)) :=
  bx_c (ec_R op_in_seq ha hb (fun _ _ _ _ h => h) fun F1 H1 v u s w hv ⟨l, vs, e, hl, h2⟩ Q q => by
    cases (show v = V.bl i from hv)
    rw [bR_map h2] at hl
    refine ⟨l, _, e, .inl (w.sq hl), rfl, flat_bls xs, ?_⟩
    rw [inV_bls]; exact q) hm
theorem bx_niB {i : Bool} {xs : List Bool} (ha : EvF X a σ F M bR i) (hb : EvF X b σ F M (rdR X.K M bR) xs) (hm : behindInMarks .NotIn b = false := by rfl) : Bx X (.Compare a [.NotIn] [b] pos) σ F M (!decide (i ∈ xs)) :=
  bx_c (ec_R op_notIn_seq ha hb (fun _ _ _ _ h => h) fun F1 H1 v u s w hv ⟨l, vs, e, hl, h2⟩ Q q => by
    cases (show v = V.bl i from hv)
    rw [bR_map h2] at hl
    refine ⟨l, _, e, .inl (w.sq hl), rfl, flat_bls xs, ?_⟩
    rw [inV_bls]; exact q) hm
end
end Y

/-! ### least and greatest with None as default; options; the measures told; parts' measures -/
namespace Y
open PySem PySem.Spec PyProof.Rows L2
def mnO : List Int → Option Int
  | [] => none
  | x :: t => some (t.foldl min x)
def mxO : List Int → Option Int
  | [] => none
  | x :: t => some (t.foldl max x)
instance : DEq (oR iR) where
  toD := fun x => match x with
    | none => .none
    | some i => .int i
  dep := 0
  dp := fun {K F v x} h => by
    cases x with
    | none => cases (show v = V.non from h); exact .non
    | some i => cases (show v = V.int i from h); exact .int _
  lay := fun {F v x} h => by cases x <;> rfl
  dpt := fun x => by cases x <;> exact Nat.le_refl _
  eqv := fun x y => by cases x <;> cases y <;> simp [PyData.eqv]
def rMaxN (K : PySem.W.Frag) : List V → List V → Hp → VK → Prop := fun vs zs H Q => ∃ (a : Addr) (ns : List Int), vs = [V.ref a] ∧ zs = [.non] ∧ SqL K H a (ns.map V.int) ∧ Q (oV (mxO ns)) H
def rMinN (K : PySem.W.Frag) : List V → List V → Hp → VK → Prop := fun vs zs H Q => ∃ (a : Addr) (ns : List Int), vs = [V.ref a] ∧ zs = [.non] ∧ SqL K H a (ns.map V.int) ∧ Q (oV (mnO ns)) H
section
variable {X : Cx}
theorem cr_maxN (hc : X.calm = true) (hu : X.A.units + 64 < cLine) : CallRK X (.builtin "max") [("default" : Str)] (rMaxN X.K) := by
  intro pins s σ H xs zs us ws Q I r rz h
  obtain ⟨a, ns, rfl, rfl, hs, q⟩ := h
  obtain ⟨its, rv, hl, _⟩ := I.list hs
  obtain ⟨u, rfl, t⟩ := vals1 rz
  cases t
  rw [Vals.ref1 r]
  refine PySem.W.max_list_datum_default (I.ok.hd hc) hl.isList (by simpa using holdAll_ints rv.ints) (by show X.A.units + 1 + 0 < _; omega) (fun e h' tk hk => ?_) fun y ys i v h' tk e hi hr hk => ?_
  · subst e
    exact ⟨.non, H, I.kept hk, rfl, q⟩
  · subst e
    obtain ⟨as, hr⟩ := hr
    rw [maxOf_int] at hr
    cases hr
    exact ⟨.int _, H, I.kept hk, ⟨_, rfl⟩, q⟩
theorem cr_minN (hc : X.calm = true) (hu : X.A.units + 64 < cLine) : CallRK X (.builtin "min") [("default" : Str)] (rMinN X.K) := by
  intro pins s σ H xs zs us ws Q I r rz h
  obtain ⟨a, ns, rfl, rfl, hs, q⟩ := h
  obtain ⟨its, rv, hl, _⟩ := I.list hs
  obtain ⟨u, rfl, t⟩ := vals1 rz
  cases t
  rw [Vals.ref1 r]
  refine PySem.W.min_list_datum_default (I.ok.hd hc) hl.isList (by simpa using holdAll_ints rv.ints) (by show X.A.units + 1 + 0 < _; omega) (fun e h' tk hk => ?_) fun y ys i v h' tk e hi hr hk => ?_
  · subst e
    exact ⟨.non, H, I.kept hk, rfl, q⟩
  · subst e
    obtain ⟨as, hr⟩ := hr
    rw [minOf_int] at hr
    cases hr
    exact ⟨.int _, H, I.kept hk, ⟨_, rfl⟩, q⟩
variable [Lams] {σ : L2.St} {F M H : Hp} {a b c e : Expr} {es : List Expr} {pos p p2 kpos : Pos} {α β γ : Type} {r : Rep α} {s : Rep β} {rest : List Stmt} {D : Ends}
theorem ev_maxN {xs : List Int} (hc : X.calm = true) (hu : X.A.units + 64 < cLine) (hm : X.mg "max" = none) (ha : EvF X a σ F M (rdR X.K M iR) xs) (hb : EvF X b σ F M nR ()) (hg : Gl X "max" := by rfl)
    (he0 : starEach [a] X.env = (false, eval a X.env) :: starEach [] X.env := by rfl)
    (he : backTo pos (starEach [a] X.env) = (false, eval a X.env) :: backTo pos (starEach [] X.env) := by rfl) (hpl : (backTo pos (starEach [a] X.env)).any (·.1) = false := by rfl)
    (hall : (backToKw pos (keywordEach [⟨some "default", b, kpos⟩] X.env)).all (·.1.isSome) = true := by rfl) (hnone : (backToKw pos (keywordEach [⟨some "default", b, kpos⟩] X.env)).any (·.1.isNone) = false := by rfl) (hks : (backToKw pos (keywordEach [⟨some "default", b, kpos⟩] X.env)).filterMap (·.1) = [("default" : Str)] := by rfl) :
    EvF X (.Call (.Name "max" p) [a] [⟨some "default", b, kpos⟩] pos) σ F M (oR iR) (mxO xs) :=
  fun F1 H1 s w Q q => we_of (pe_callBK (cr_maxN hc hu) hg hm (by decide +kernel) (pa_cons (pe_w a) pa_nil he0) (pk_cons (pe_w b) pk_nil) (by decide) (by decide) he hpl hall hnone hks) (ha F1 H1 s w _ fun F2 H2 v s2 w2 ⟨l, vs, e, hl, h2⟩ => hb F2 H2 (s.trans s2) w2 _ fun F3 H3 u s3 w3 hu' =>
    ⟨l, xs, by rw [e], by rw [show u = V.non from hu'], by rw [← iR_map h2]; exact w3.sq (hl.imp (fun y => Same.sql s3 y) id), q F3 H3 _ (s2.trans s3) w3 oV_rep⟩)
theorem ev_minN {xs : List Int} (hc : X.calm = true) (hu : X.A.units + 64 < cLine) (hm : X.mg "min" = none) (ha : EvF X a σ F M (rdR X.K M iR) xs) (hb : EvF X b σ F M nR ()) (hg : Gl X "min" := by rfl)
    (he0 : starEach [a] X.env = (false, eval a X.env) :: starEach [] X.env := by rfl)
    (he : backTo pos (starEach [a] X.env) = (false, eval a X.env) :: backTo pos (starEach [] X.env) := by rfl) (hpl : (backTo pos (starEach [a] X.env)).any (·.1) = false := by rfl)
    (hall : (backToKw pos (keywordEach [⟨some "default", b, kpos⟩] X.env)).all (·.1.isSome) = true := by rfl) (hnone : (backToKw pos (keywordEach [⟨some "default", b, kpos⟩] X.env)).any (·.1.isNone) = false := by rfl) (hks : (backToKw pos (keywordEach [⟨some "default", b, kpos⟩] X.env)).filterMap (·.1) = [("default" : Str)] := by rfl) :
    EvF X (.Call (.Name "min" p) [a] [⟨some "default", b, kpos⟩] pos) σ F M (oR iR) (mnO xs) :=
  fun F1 H1 s w Q q => we_of (pe_callBK (cr_minN hc hu) hg hm (by decide +kernel) (pa_cons (pe_w a) pa_nil he0) (pk_cons (pe_w b) pk_nil) (by decide) (by decide) he hpl hall hnone hks) (ha F1 H1 s w _ fun F2 H2 v s2 w2 ⟨l, vs, e, hl, h2⟩ => hb F2 H2 (s.trans s2) w2 _ fun F3 H3 u s3 w3 hu' =>
    ⟨l, xs, by rw [e], by rw [show u = V.non from hu'], by rw [← iR_map h2]; exact w3.sq (hl.imp (fun y => Same.sql s3 y) id), q F3 H3 _ (s2.trans s3) w3 oV_rep⟩)
/-- what an option that is some holds -/
theorem Ev.oget {x : Option α} {y : α} (h : EvF X e σ F M (oR r) x) (hx : x = some y) : EvF X e σ F M r y := h.imp fun F v q => oR.get q hx
omit [Lams] in
theorem A2.somes {F : Hp} : ∀ {vs : List V} {xs : List α}, A2 (r F) vs xs → A2 (oR r F) vs (xs.map some)
  | _, _, .nil => .nil
  | _, _, .cons h t => .cons h t.somes
/-- a list of things as a list of options -/
theorem Ev.lsome {xs : List α} (h : EvF X e σ F M (lR r) xs) : EvF X e σ F M (lR (oR r)) (xs.map some) := h.imp fun F v ⟨l, vs, e, hl, h2⟩ => ⟨l, vs, e, hl, h2.somes⟩
/-- x(..).append(e): a new list, which nobody holds -/
theorem ss_appN {xs : List α} {x : β} {cpos apos : Pos} {o : Expr} (ho : EvN X o σ F M r xs) (hz : xs.length < 1000000) (he : ∀ M, EvF X e σ F M s x) (w : Own F M H)
    (k : ∀ F2 H2, Same F F2 → Own F2 M H2 → WSs X rest D σ H2)
    (hbase : attributeBase o "append" X.env (eval o X.env) = eval o X.env := by rfl)
    (hfew : ((backTo cpos (starEach [e] X.env)).all (fun x => !x.1) && (backToKw cpos (keywordEach [] X.env)).all (fun x => x.1.isSome)
      && decide ([e].length + ([] : List Keyword).length + (if ([] : List Keyword).isEmpty then 0 else 1) < 30)) = true := by rfl)
    (hline : (apos.endLine == cpos.line) = true := by rfl) (hst : starEach [e] X.env = (false, eval e X.env) :: starEach [] X.env := by rfl) (hplain : (backTo cpos (starEach [] X.env)).any (·.1) = false := by rfl)
    (hsw : swapsWith (.Call (.Attribute o "append" apos) [e] [] cpos) none pos.line X.env = pure false := by rfl) :
    WSs X (.Expr (.Call (.Attribute o "append" apos) [e] [] cpos) pos :: rest) D σ H :=
  wss_cons (ws_of (ps_expr (pe_bm PySem.F.plainAttrs_list PySem.F.slot_list_append PySem.F.type_list_append mt_append (pe_w o) (pa_cons (pe_w e) pa_nil hst) hbase hfew hline hst hplain) hsw)
    (ho F H (Same.refl _) w _ fun F2 H2 l vs s2 w2 n1 n2 hh h2 => ⟨.inl ⟨rfl, _, SqL.of hh⟩, he _ F2 H2 s2 (w2.keepM n1 n2 hh) _ fun F3 H3 v s3 w3 hv =>
      ⟨l, vs, v, rfl, rfl, w3.m _ _ upd_same, Nat.lt_of_lt_of_le (by rw [h2.len]; exact hz) (by decide), k F3 _ (s2.trans s3) ((w3.put upd_same).lessM ((same_new n2).trans (by rw [upd_upd]; exact Same.refl _)))⟩⟩))
/-! what is told of measures: a list of numbers or None, and of a list of texts at its end -/
def dueR : Rep (List (Option Int) × List Str) := fun F v x => ∃ l vs w, v = .ref l ∧ F l = some (.lst (vs ++ [w])) ∧ A2 (oR iR F) vs x.1 ∧ lR sR F w x.2
instance : Mono dueR := ⟨fun e ⟨l, vs, w, e1, h1, h2, h3⟩ => ⟨l, vs, w, e1, e.lst h1, h2.sub e, Mono.sub e h3⟩⟩
instance : NotN dueR := ⟨fun ⟨l, vs, w, e1, _⟩ => by subst e1; intro z; cases z⟩
theorem ea_due1 {xs : List Str} (he : EvF X e σ F M (lR sR) xs) (hs : starEach [e] X.env = (false, eval e X.env) :: starEach [] X.env := by rfl) : EvA X [e] σ F M fun F us => ∃ vs w, us = vs ++ [w] ∧ A2 (oR iR F) vs [] ∧ lR sR F w xs :=
  fun F1 H1 s w Q q => wa_of (pa_cons (pe_w e) pa_nil hs) (he F1 H1 s w _ fun F2 H2 v s2 w2 hv => q F2 H2 _ s2 w2 ⟨[], v, rfl, .nil, hv⟩)
theorem ea_dueC {x : Option Int} {xs : List (Option Int)} {ws : List Str} (he : EvF X e σ F M (oR iR) x) (h : EvA X es σ F M fun F us => ∃ vs w, us = vs ++ [w] ∧ A2 (oR iR F) vs xs ∧ lR sR F w ws) (hs : starEach (e :: es) X.env = (false, eval e X.env) :: starEach es X.env := by rfl) :
    EvA X (e :: es) σ F M fun F us => ∃ vs w, us = vs ++ [w] ∧ A2 (oR iR F) vs (x :: xs) ∧ lR sR F w ws :=
  fun F1 H1 s w Q q => wa_of (pa_cons (pe_w e) (pa_w es) hs) (he F1 H1 s w _ fun F2 H2 v s2 w2 hv => h F2 H2 (s.trans s2) w2 _ fun F3 H3 us s3 w3 ⟨vs, u, e1, h1, h2⟩ => q F3 H3 _ (s2.trans s3) w3 ⟨v :: vs, u, by rw [e1]; rfl, .cons (Mono.mono s3 hv) h1, h2⟩)
theorem ev_due {xs : List (Option Int)} {ws : List Str} (h : EvA X es σ F M fun F us => ∃ vs w, us = vs ++ [w] ∧ A2 (oR iR F) vs xs ∧ lR sR F w ws) (hl : xs.length ≤ 1000 := by simp) : EvF X (.List es pos) σ F M dueR (xs, ws) :=
  fun F1 H1 s w Q q => we_of (pe_lst (pa_w es)) (h F1 H1 s w _ fun F2 H2 us s2 w2 ⟨vs, u, e1, h1, h2⟩ => by
    subst e1
    refine ⟨by rw [List.length_append, h1.len]; exact Nat.le_trans (Nat.add_le_add_right hl 1) (by decide), fun l hl2 => ?_⟩
    have hf : F2 l = none := w2.noF hl2
    exact q (upd F2 l (.lst (vs ++ [u]))) _ _ (s2.trans (same_new hf)) (w2.newF hl2) ⟨l, vs, u, rfl, upd_same, h1.up (same_new hf), Mono.mono (same_new hf) h2⟩)
/-- due[:6], due[6] -/
theorem en_due6 {x : List (Option Int) × List Str} {p4 : Pos} {j} (ha : EvF X a σ F M dueR x) (h6 : x.1.length = 6) : EvN X (.Subscript a (.Slice none (some (.Constant (.int 6) j p4)) none p2) pos) σ F M (oR iR) x.1 :=
  fun F1 H1 s w Q q => we_of (pe_slice sl_list (pe_w a) (po_w none) (po_w (some (.Constant (.int 6) j p4)))) (ha F1 H1 s w _ fun F2 H2 v s2 w2 ⟨l, vs, u, e, hl, h2, h3⟩ => EvO.run (X := X) (e := none) (o := none) trivial (s.trans s2) w2 _ fun F3 H3 s3 w3 => EvO.run (X := X) (e := some (.Constant (.int 6) j p4)) (o := some 6) (show EvF X (.Constant (.int 6) j p4) σ F M iR 6 from ev_int) ((s.trans s2).trans s3) w3 _ fun F4 H4 s4 w4 =>
    ⟨l, _, e, SqL.of (w4.f _ _ (s4 _ _ (s3 _ _ hl))), fun p hp => by
      refine q F4 _ p _ ((s2.trans s3).trans s4) (w4.more hp) (w4.noF hp) (w4.noM hp) upd_same ?_
      have e6 : cutV (vs ++ [u]) none (some 6) = vs := by
        have hl6 : vs.length = 6 := h2.len.trans h6
        match vs, hl6 with
        | [a, b, c, d, e, f], _ => rfl
      rw [e6]
      exact h2.up (s3.trans s4)⟩)
theorem ev_dueW {x : List (Option Int) × List Str} {j} {q1} (ha : EvF X a σ F M dueR x) (h6 : x.1.length = 6) (hs : PlainIx (.Constant (.int 6) j q1) := by exact fun _ _ => rfl) : EvF X (.Subscript a (.Constant (.int 6) j q1) pos) σ F M (lR sR) x.2 :=
  fun F1 H1 s w Q q => we_of (pe_ix ix_list (pe_w a) pe_int hs) (ha F1 H1 s w _ fun F2 H2 v s2 w2 ⟨l, vs, u, e, hl, h2, h3⟩ => ⟨l, _, 6, u, e, rfl, SqL.of (w2.f _ _ hl), by
    have hl6 : vs.length = 6 := h2.len.trans h6
    match vs, hl6 with
    | [a, b, c, d, e, f], _ => rfl, q F2 H2 _ s2 w2 h3⟩)
end
end Y

/-! ### the parts: their measures, their words; an __init__'s self -/
namespace Y
open PySem PySem.Spec PyProof.Rows L2
theorem same_self {M : Hp} {x dx : Addr} {a b : HO} (hx : M x = none) (hd : M dx = none) (ne : dx ≠ x) : Same M (upd (upd M dx a) x b) :=
  (same_new hd).trans (same_new (by rw [upd_ne ne.symm]; exact hx))
theorem oV_of {F : Hp} {v : V} {x : Option Int} (h : oR iR F v x) : v = oV x := by cases x <;> exact h
theorem roomH_mark {j k : Nat} {A : Around} {o : Option Value} (hr : Room j A) (h : k ≤ j) : L2H.RoomH k (A.mark o) := ⟨(hr.mono h).dp, (hr.mono h).un⟩
theorem strLen_ofString (s : String) : (Str.ofString s).length = s.length := by
  have h : (TL.tl (Str.ofString s)).length = s.length := by rw [TL.tl_ofString, List.length_map]; exact String.length_toList
  unfold TL.tl at h
  rw [Array.length_toList] at h
  exact h
theorem numT_len {i : Int} {k : Nat} (h : i.natAbs < 10 ^ k) (hk : 0 < k) : (numT i).length ≤ k + 1 := by
  unfold numT
  rw [strLen_ofString]
  cases i with
  | ofNat m =>
    have : (toString (Int.ofNat m)) = m.repr := rfl
    rw [this]
    have := (Nat.length_repr_le_iff (n := m) hk).mpr h
    omega
  | negSucc m =>
    have : (toString (Int.negSucc m)) = "-" ++ (m + 1).repr := rfl
    rw [this, String.length_append]
    have := (Nat.length_repr_le_iff (n := m + 1) hk).mpr h
    have : "-".length = 1 := rfl
    omega
theorem str_len_app (x y : Str) : (x ++ y).length = x.length + y.length := by
  have h : (TL.tl (x ++ y)).length = (TL.tl x).length + (TL.tl y).length := by rw [TL.tl_append, List.length_append]
  unfold TL.tl at h
  simp only [Array.length_toList] at h
  exact h
theorem numT_small {i : Int} (h : i.natAbs < 10 ^ 1000) : (numT i).length ≤ 1001 := numT_len h (by decide)
theorem log_small {i : Int} (h : i.natAbs < 10 ^ 9) : i.natAbs.log2 < 1920 := by
  by_cases q : i.natAbs = 0
  · rw [q]; decide
  · exact Nat.lt_of_lt_of_le ((Nat.log2_lt q).mpr (Nat.lt_of_lt_of_le h (by decide : 10 ^ 9 ≤ 2 ^ 30))) (by decide)
/-! what a part is made of -/
def sumF (f : PT → Int) (ts : List PT) : Int := (ts.map f).sum
def lowsP (ts : List PT) : List Int := (ts.filter fun t => !t.m.low.isNone).map fun t => oG t.m.low
def highsP (ts : List PT) : List Int := (ts.filter fun t => !t.m.low.isNone).map fun t => oG t.m.high
def measB (ts : List PT) (long written : Int) : Meas := ⟨long, written, 1 + (ts.map fun t => t.m.size).sum, 1 + mxD 0 (ts.map fun t => t.m.depth), mnO (lowsP ts), mxO (highsP ts)⟩
def mkB (k : PKind) (n : Int) (ts : List PT) (long written : Int) : PT := .mk k n ts (measB ts long written)
def okM (m : Meas) : Prop := (1 ≤ m.cells ∧ m.cells ≤ 2000) ∧ (1 ≤ m.leaves ∧ m.leaves ≤ 900) ∧ (1 ≤ m.size ∧ m.size ≤ 1500) ∧ (1 ≤ m.depth ∧ m.depth ≤ 12)
def toneP (p c : Int) : PT := .mk .tone p [] ⟨c, 1, 1, 1, some p, some p⟩
def restP (c : Int) : PT := .mk .rest 0 [] ⟨c, 1, 1, 1, none, none⟩
def rowP (ts : List PT) : PT := mkB .row 0 ts (ts.map fun t => t.m.cells).sum (ts.map fun t => t.m.leaves).sum
def repP (n : Int) (t : PT) : PT := mkB .rep n [t] (n * t.m.cells) (n * t.m.leaves)
def movO (n : Int) : Option Int → Option Int
  | none => none
  | some i => some (i + n)
def shiftP (n : Int) (t : PT) : PT := .mk .shift n [t] { measB [t] t.m.cells t.m.leaves with low := movO n t.m.low, high := movO n t.m.high }
def stretchP (n : Int) (t : PT) : PT := mkB .stretch n [t] (n * t.m.cells) t.m.leaves
def besideP (ts : List PT) : PT := mkB .beside 0 ts (mxD 0 (ts.map fun t => t.m.cells)) (ts.map fun t => t.m.leaves).sum
mutual
def wordsP : PT → List Str
  | .mk .tone n _ m => [numT n ++ "." ++ numT m.cells]
  | .mk .rest _ _ m => [("r." : Str) ++ numT m.cells]
  | .mk .row _ ts _ => (["("] : List Str) ++ wordsL ts ++ ([")"] : List Str)
  | .mk .rep n ts _ => [("x" : Str) ++ numT n] ++ wordsL ts
  | .mk .shift n ts _ => (if n < 0 then [numT n] else [("+" : Str) ++ numT n]) ++ wordsL ts
  | .mk .stretch n ts _ => [("*" : Str) ++ numT n] ++ wordsL ts
  | .mk .beside _ ts _ => (["["] : List Str) ++ (wordsB ts).drop 1 ++ (["]"] : List Str)
def wordsL : List PT → List Str
  | [] => []
  | t :: ts => wordsP t ++ wordsL ts
def wordsB : List PT → List Str
  | [] => []
  | t :: ts => "|" :: (wordsP t ++ wordsB ts)
end
theorem wordsP_tone {t : PT} (h : t.k = .tone) : wordsP t = [numT t.n ++ "." ++ numT t.m.cells] := by
  cases t with | mk k n ts m => cases (show k = _ from h); simp only [wordsP]; rfl
theorem wordsP_rest {t : PT} (h : t.k = .rest) : wordsP t = [("r." : Str) ++ numT t.m.cells] := by
  cases t with | mk k n ts m => cases (show k = _ from h); simp only [wordsP]; rfl
theorem wordsP_row {t : PT} (h : t.k = .row) : wordsP t = (["("] : List Str) ++ wordsL t.inner ++ ([")"] : List Str) := by
  cases t with | mk k n ts m => cases (show k = _ from h); simp only [wordsP]; rfl
theorem wordsP_rep {t : PT} (h : t.k = .rep) : wordsP t = [("x" : Str) ++ numT t.n] ++ wordsL t.inner := by
  cases t with | mk k n ts m => cases (show k = _ from h); simp only [wordsP]; rfl
theorem wordsP_shift {t : PT} (h : t.k = .shift) : wordsP t = (if t.n < 0 then [numT t.n] else [("+" : Str) ++ numT t.n]) ++ wordsL t.inner := by
  cases t with | mk k n ts m => cases (show k = _ from h); simp only [wordsP]; rfl
theorem wordsP_stretch {t : PT} (h : t.k = .stretch) : wordsP t = [("*" : Str) ++ numT t.n] ++ wordsL t.inner := by
  cases t with | mk k n ts m => cases (show k = _ from h); simp only [wordsP]; rfl
theorem wordsP_beside {t : PT} (h : t.k = .beside) : wordsP t = (["["] : List Str) ++ (wordsB t.inner).drop 1 ++ (["]"] : List Str) := by
  cases t with | mk k n ts m => cases (show k = _ from h); simp only [wordsP]; rfl
/-- what was made within the bounds, of parts of these kinds -/
inductive Sound (kk : PKind → Prop) : PT → Prop
  | tone {p c : Int} : kk .tone → 0 ≤ p → p ≤ 127 → 1 ≤ c → c ≤ 2000 → Sound kk (toneP p c)
  | rest {c : Int} : kk .rest → 1 ≤ c → c ≤ 2000 → Sound kk (restP c)
  | row {ts : List PT} : kk .row → (∀ t ∈ ts, Sound kk t) → ts.length < 1000 → okM (rowP ts).m → Sound kk (rowP ts)
  | rep {n : Int} {t : PT} : kk .rep → 1 ≤ n → n ≤ 99 → Sound kk t → okM (repP n t).m → Sound kk (repP n t)
  | shift {n : Int} {t : PT} : kk .shift → -60 ≤ n → n ≤ 60 → Sound kk t → okM (shiftP n t).m → (∀ i, t.m.low = some i → 0 ≤ i + n ∧ i + n ≤ 127) → (∀ i, t.m.high = some i → 0 ≤ i + n ∧ i + n ≤ 127) → Sound kk (shiftP n t)
  | stretch {n : Int} {t : PT} : kk .stretch → 1 ≤ n → n ≤ 12 → Sound kk t → okM (stretchP n t).m → Sound kk (stretchP n t)
  | beside {ts : List PT} : kk .beside → (∀ t ∈ ts, Sound kk t) → 2 ≤ ts.length → ts.length < 1000 → okM (besideP ts).m → Sound kk (besideP ts)
theorem okM_leaf {c : Int} {x y : Option Int} (h1 : 1 ≤ c) (h2 : c ≤ 2000) : okM ⟨c, 1, 1, 1, x, y⟩ :=
  ⟨⟨h1, h2⟩, ⟨by show (1 : Int) ≤ 1; omega, by show (1 : Int) ≤ 900; omega⟩, ⟨by show (1 : Int) ≤ 1; omega, by show (1 : Int) ≤ 1500; omega⟩, ⟨by show (1 : Int) ≤ 1; omega, by show (1 : Int) ≤ 12; omega⟩⟩
section
variable {kk : PKind → Prop}
theorem Sound.ok {t : PT} (h : Sound kk t) : okM t.m := by
  cases h with
  | tone _ _ _ c d => exact okM_leaf c d
  | rest _ c d => exact okM_leaf c d
  | row _ _ _ h => exact h
  | rep _ _ _ _ h => exact h
  | shift _ _ _ _ h => exact h
  | stretch _ _ _ _ h => exact h
  | beside _ _ _ _ h => exact h
theorem Sound.kind {t : PT} (h : Sound kk t) : kk t.k := by
  cases h with
  | tone h => exact h
  | rest h => exact h
  | row h => exact h
  | rep h => exact h
  | shift h => exact h
  | stretch h => exact h
  | beside h => exact h
/-- what a sound part's parts are -/
theorem Sound.inn {t : PT} (h : Sound kk t) : ∀ u ∈ t.inner, Sound kk u := by
  cases h with
  | tone => exact fun u hu => by cases hu
  | rest => exact fun u hu => by cases hu
  | row _ h => exact h
  | rep _ _ _ h => exact fun u hu => by rw [List.mem_singleton.mp hu]; exact h
  | shift _ _ _ h => exact fun u hu => by rw [List.mem_singleton.mp hu]; exact h
  | stretch _ _ _ h => exact fun u hu => by rw [List.mem_singleton.mp hu]; exact h
  | beside _ h => exact h
theorem mxD_mem_le {xs : List Int} {x : Int} (h : x ∈ xs) : x ≤ mxD 0 xs := mxD_ge h
theorem Sound.deep {t : PT} (h : Sound kk t) : ∀ u ∈ t.inner, u.m.depth + 1 ≤ t.m.depth := by
  have key : ∀ (ts : List PT) (a b : Int), ∀ u ∈ ts, u.m.depth + 1 ≤ (measB ts a b).depth := fun ts a b u hu => by
    show _ ≤ 1 + mxD 0 (ts.map fun t => t.m.depth)
    have := mxD_mem_le (List.mem_map.mpr ⟨u, hu, rfl⟩ : u.m.depth ∈ ts.map fun t => t.m.depth)
    omega
  cases h with
  | tone => exact fun u hu => by cases hu
  | rest => exact fun u hu => by cases hu
  | row => exact key _ _ _
  | rep => exact key _ _ _
  | @shift n t => exact key [t] t.m.cells t.m.leaves
  | stretch => exact key _ _ _
  | beside => exact key _ _ _
theorem Sound.cells {t : PT} (h : Sound kk t) : 1 ≤ t.m.cells ∧ t.m.cells ≤ 2000 := h.ok.1
theorem mnO_none {xs : List Int} : (mnO xs).isNone = decide (xs = []) := by cases xs <;> rfl
theorem mxO_none {xs : List Int} : (mxO xs).isNone = decide (xs = []) := by cases xs <;> rfl
theorem measB_both {ts : List PT} {a b : Int} : (measB ts a b).high.isNone = (measB ts a b).low.isNone := by
  show (mxO (highsP ts)).isNone = (mnO (lowsP ts)).isNone
  rw [mnO_none, mxO_none]
  unfold highsP lowsP
  simp only [List.map_eq_nil_iff]
/-- its lowest is None just where its highest is -/
theorem Sound.both {t : PT} (h : Sound kk t) : t.m.high.isNone = t.m.low.isNone := by
  induction h with
  | tone => rfl
  | rest => rfl
  | row => exact measB_both
  | rep => exact measB_both
  | @shift n t _ _ _ _ _ _ _ ih =>
    show (movO n t.m.high).isNone = (movO n t.m.low).isNone
    cases h1 : t.m.high <;> cases h2 : t.m.low <;> rw [h1, h2] at ih <;> first | rfl | cases ih
  | stretch => exact measB_both
  | beside => exact measB_both
/-- the number of a sound part is small -/
theorem Sound.num {t : PT} (h : Sound kk t) : -60 ≤ t.n ∧ t.n ≤ 127 := by
  cases h with
  | @tone p c _ a b _ d => exact ⟨by show (-60 : Int) ≤ p; omega, b⟩
  | rest _ c d => exact ⟨by show (-60 : Int) ≤ 0; omega, by show (0 : Int) ≤ 127; omega⟩
  | row => exact ⟨by show (-60 : Int) ≤ 0; omega, by show (0 : Int) ≤ 127; omega⟩
  | @rep n t _ a b _ h => exact ⟨by show (-60 : Int) ≤ n; omega, by show n ≤ (127 : Int); omega⟩
  | @shift n t _ a b _ h => exact ⟨a, by show n ≤ (127 : Int); omega⟩
  | @stretch n t _ a b _ h => exact ⟨by show (-60 : Int) ≤ n; omega, by show n ≤ (127 : Int); omega⟩
  | beside => exact ⟨by show (-60 : Int) ≤ 0; omega, by show (0 : Int) ≤ 127; omega⟩
/-- its number of words is bounded by its size -/
theorem wordsB_len {ts : List PT} (h : ∀ t ∈ ts, ((wordsP t).length : Int) + 1 ≤ 4 * t.m.size) : ((wordsB ts).length : Int) ≤ 4 * (ts.map fun t => t.m.size).sum := by
  induction ts with
  | nil => simp [wordsB]
  | cons t ts ih =>
    have h1 := h t (by simp)
    have h2 := ih fun u hu => h u (by simp [hu])
    simp only [wordsB, List.length_append, List.map_cons, List.sum_cons, List.length_cons]
    omega
theorem wordsL_le : ∀ ts : List PT, (wordsL ts).length ≤ (wordsB ts).length
  | [] => by simp [wordsL]
  | t :: ts => by
    have := wordsL_le ts
    simp only [wordsL, wordsB, List.length_append, List.length_cons]
    omega
theorem words_size {t : PT} {ts : List PT} {a b : Int} (ht : t.m.size = (measB ts a b).size) (hw : (wordsP t).length ≤ 2 + (wordsB ts).length) (h : ∀ u ∈ ts, ((wordsP u).length : Int) + 1 ≤ 4 * u.m.size) : ((wordsP t).length : Int) + 1 ≤ 4 * t.m.size := by
  have h1 := wordsB_len h
  have h2 : t.m.size = 1 + (ts.map fun t => t.m.size).sum := ht
  omega
theorem Sound.words {t : PT} (h : Sound kk t) : ((wordsP t).length : Int) + 1 ≤ 4 * t.m.size := by
  have one : ∀ {t u : PT}, (t.k = .rep ∨ t.k = .shift ∨ t.k = .stretch) → t.inner = [u] → (wordsP t).length ≤ 2 + (wordsB [u]).length := fun {t u} hk hi => by
    have hl := wordsL_le [u]
    rcases hk with hk | hk | hk
    · rw [wordsP_rep hk, hi]; simp only [List.length_append, List.length_cons, List.length_nil]; omega
    · rw [wordsP_shift hk, hi]; simp only [List.length_append]; split <;> simp only [List.length_cons, List.length_nil] <;> omega
    · rw [wordsP_stretch hk, hi]; simp only [List.length_append, List.length_cons, List.length_nil]; omega
  induction h with
  | @tone p c => rw [wordsP_tone rfl]; show (1 : Int) + 1 ≤ 4 * 1; omega
  | @rest c => rw [wordsP_rest rfl]; show (1 : Int) + 1 ≤ 4 * 1; omega
  | @row ts _ _ _ _ ih =>
    refine words_size (ts := ts) rfl ?_ ih
    rw [wordsP_row rfl]
    have := wordsL_le ts
    simp only [List.length_append, List.length_cons, List.length_nil]
    show 0 + 1 + (wordsL ts).length + (0 + 1) ≤ _
    omega
  | @rep n t _ _ _ _ _ ih => exact words_size (ts := [t]) (a := n * t.m.cells) (b := n * t.m.leaves) rfl (one (.inl rfl) rfl) fun u hu => by rw [List.mem_singleton.mp hu]; exact ih
  | @shift n t _ _ _ _ _ _ _ ih => exact words_size (ts := [t]) (a := t.m.cells) (b := t.m.leaves) rfl (one (.inr (.inl rfl)) rfl) fun u hu => by rw [List.mem_singleton.mp hu]; exact ih
  | @stretch n t _ _ _ _ _ ih => exact words_size (ts := [t]) (a := n * t.m.cells) (b := t.m.leaves) rfl (one (.inr (.inr rfl)) rfl) fun u hu => by rw [List.mem_singleton.mp hu]; exact ih
  | @beside ts _ _ _ _ _ ih =>
    refine words_size (ts := ts) rfl ?_ ih
    rw [wordsP_beside rfl]
    simp only [List.length_append, List.length_cons, List.length_nil, List.length_drop]
    show 0 + 1 + ((wordsB ts).length - 1) + (0 + 1) ≤ _
    omega
/-- .. so there are not many -/
theorem Sound.few {t : PT} (h : Sound kk t) : (wordsP t).length ≤ 6000 := by
  have := h.words
  have := h.ok.2.2.1
  omega
theorem Sound.fewB {ts : List PT} (h : ∀ t ∈ ts, Sound kk t) (hs : (ts.map fun t => t.m.size).sum ≤ 1500) : (wordsB ts).length ≤ 6000 := by
  have := wordsB_len (ts := ts) fun t ht => (h t ht).words
  omega
theorem wordsL_app (xs ys : List PT) : wordsL (xs ++ ys) = wordsL xs ++ wordsL ys := by
  induction xs with
  | nil => rfl
  | cons t ts ih => simp only [List.cons_append, wordsL, ih, List.append_assoc]
theorem wordsB_app (xs ys : List PT) : wordsB (xs ++ ys) = wordsB xs ++ wordsB ys := by
  induction xs with
  | nil => rfl
  | cons t ts ih => simp only [List.cons_append, wordsB, ih, List.append_assoc]
end
/-- an instance's attributes are those of the part t -/
def PMade (pc : PKind → Addr) (F : Hp) (fs : List (Str × V)) (t : PT) : Prop := ∃ l vs, F l = some (.lst vs) ∧ A2 (pR pc F) vs t.inner ∧ fs = pflds t.k t.n l t.m
theorem made_pR {pc : PKind → Addr} {F0 F : Hp} {q dx : Addr} {fs : List (Str × V)} {t : PT} (h : F q = some (.ins (pc t.k) dx fs)) (s : Same F0 F) (hm : PMade pc F0 fs t) : pR pc F (.ref q) t := by
  obtain ⟨l, vs, hl, hA, rfl⟩ := hm
  cases t with
  | mk k n ts m => exact PR.of h (s _ _ hl) (hA.up s)
theorem kit_own {K : PySem.W.Frag} {R S : Addr} {b : Bool} (h2 : PySem.W.isClsIn K S = true) (h3 : PySem.W.typeIn K (.ref S) = some (.type "type")) (h4 : PySem.W.subIn K (.ref R) (.ref S) = some b) (hn : b = false → R ≠ S) : PySem.W.kitOne K (.ref R) (.ref S) = some b := by
  unfold PySem.W.kitOne
  by_cases q : R = S
  · subst q
    cases b with
    | true => rw [if_pos (by simp)]
    | false => exact absurd rfl (hn rfl)
  · rw [if_neg (by simpa using q)]
    have h2' : (PySem.W.clsIn K S).isSome = true := h2
    show (if ((PySem.W.clsIn K S).isSome && PySem.W.typeIn K (.ref S) == some (.type "type")) = true then PySem.W.subIn K (.ref R) (.ref S) else none) = some b
    rw [h2', h3, if_pos (by rfl)]
    exact h4
theorem kit_typ {K : PySem.W.Frag} {R : Addr} {T : String} {b : Bool} (h2 : PySem.W.kitMeta T = true) (h4 : PySem.W.subIn K (.ref R) (.type T) = some b) : PySem.W.kitOne K (.ref R) (.type T) = some b := by
  unfold PySem.W.kitOne
  rw [if_neg (by rintro h; exact absurd (eq_of_beq h) (by intro z; cases z))]
  show (if PySem.W.kitMeta T = true then PySem.W.subIn K (.ref R) (.type T) else none) = some b
  rw [if_pos h2]
  exact h4
end Y

/-! ### what a def computes: told, let out, or not to be asked -/
namespace Y
inductive Exc | noPart | noText | near (a b : Int × Int × Int) | noSeam (s : Int) (o : List (Int × Int × Int)) | noBarrel | noName | noSense (p : Int) | noRow
inductive Res (δ ρ : Type) | ok (v : ρ) | ex (e : Exc) (s : δ) | bad
abbrev Rs := Res Unit
instance {δ ρ : Type} : Inhabited (Res δ ρ) := ⟨.bad⟩
def Res.isOk {δ ρ : Type} : Res δ ρ → Prop | .ok _ => True | _ => False
def Res.get {δ ρ : Type} [Inhabited ρ] : Res δ ρ → ρ | .ok v => v | _ => default
section
variable {δ ρ α β κ : Type}
@[simp] theorem Res.isOk_ok {v : ρ} : (Res.ok v : Res δ ρ).isOk = True := rfl
@[simp] theorem Res.get_ok [Inhabited ρ] {v : ρ} : (Res.ok v : Res δ ρ).get = v := rfl
theorem Res.isOk_get [Inhabited ρ] {m : Res δ ρ} (h : m.isOk) : m = .ok m.get := by cases m <;> first | rfl | exact h.elim
theorem Res.isOk_of {m : Res δ ρ} {v : ρ} (h : m = .ok v) : m.isOk := by rw [h]; trivial
theorem Res.isOk_ne {m : Res δ ρ} (h : m.isOk) : m ≠ .bad := fun z => by rw [z] at h; exact h
/-- asked for -/
noncomputable def req (P : Prop) (k : Res δ ρ) : Res δ ρ := @ite _ P (Classical.propDecidable P) k .bad
theorem req_pos {P : Prop} {k : Res δ ρ} (h : P) : req P k = k := by unfold req; exact if_pos h
theorem req_of {P : Prop} {k r : Res δ ρ} (hb : r ≠ .bad) (hm : req P k = r) : P ∧ k = r := by
  by_cases h : P
  · exact ⟨h, (req_pos h).symm.trans hm⟩
  · unfold req at hm; rw [if_neg h] at hm; exact absurd hm.symm hb
theorem req_ind {C : Res δ ρ → Prop} {P : Prop} {k : Res δ ρ} (h : P) (q : C k) : C (req P k) := by rw [req_pos h]; exact q
/-- named -/
def bnd (a : α) (k : α → β) : β := k a
theorem bnd_of {a : α} {k : α → β} {r : β} (hm : bnd a k = r) : ∃ x, x = a ∧ k x = r := ⟨a, rfl, hm⟩
theorem bnd_eq {a : α} {k : α → β} : bnd a k = k a := rfl
/-- the ways meet -/
def jn (K : κ) (b : κ → β) : β := b K
theorem jn_of {K : κ} {b : κ → β} {r : β} (hm : jn K b = r) : ∃ K', K' = K ∧ b K' = r := ⟨K, rfl, hm⟩
theorem jn_eq {K : κ} {b : κ → β} : jn K b = b K := rfl
/-- a call that may let something out -/
def cal {ε : Type} (m : Res ε α) (k : α → Res δ ρ) (h : Exc → ε → Res δ ρ) : Res δ ρ := match m with | .ok v => k v | .ex e s => h e s | .bad => .bad
theorem cal_ne {ε : Type} {m : Res ε α} {k : α → Res δ ρ} {h : Exc → ε → Res δ ρ} {r : Res δ ρ} (hb : r ≠ .bad) (hm : cal m k h = r) : m ≠ .bad := fun z => by rw [z] at hm; exact hb hm.symm
theorem cal_ok {ε : Type} {m : Res ε α} {v : α} {k : α → Res δ ρ} {h : Exc → ε → Res δ ρ} (e : m = .ok v) : cal m k h = k v := by rw [e]; rfl
theorem cal_ex {ε : Type} {m : Res ε α} {x : Exc} {s : ε} {k : α → Res δ ρ} {h : Exc → ε → Res δ ρ} (e : m = .ex x s) : cal m k h = h x s := by rw [e]; rfl
theorem bnot_f {c : Bool} (h : (!c) = true) : c = false := by cases c <;> first | rfl | cases h
theorem bnot_t {c : Bool} (h : (!c) = false) : c = true := by cases c <;> first | rfl | cases h
theorem band_l {c d : Bool} (h : (c && d) = true) : c = true := by cases c <;> first | rfl | cases h
theorem band_r {c d : Bool} (h : (c && d) = true) : d = true := by cases c <;> cases d <;> first | rfl | cases h
theorem bor_l {c d : Bool} (h : (c || d) = false) : c = false := by cases c <;> first | rfl | cases h
theorem bor_r {c d : Bool} (h : (c || d) = false) : d = false := by cases c <;> cases d <;> first | rfl | cases h
theorem ite_t {c : Bool} {a b r : β} (hm : (if c = true then a else b) = r) (h : c = true) : a = r := by rw [if_pos h] at hm; exact hm
theorem ite_f {c : Bool} {a b r : β} (hm : (if c = true then a else b) = r) (h : c = false) : b = r := by rw [if_neg (by rw [h]; decide)] at hm; exact hm
end
/-! 0 variables -/
section
variable {α δ ρ : Type} 
def forC0 (B : α → (Res δ ρ) → Res δ ρ) (K : Res δ ρ) : List α → Res δ ρ
  | [] => K 
  | x :: t => B x  (forC0 B K t)
theorem forC0_of {B : α → (Res δ ρ) → Res δ ρ} {K : Res δ ρ} {xs : List α}  {r : Res δ ρ} (hm : forC0 B K xs  = r) : ∃ B' K', B' = B ∧ K' = K ∧ forC0 B' K' (xs.drop 0)  = r := ⟨B, K, rfl, rfl, hm⟩
theorem forC0_at {B B' : α → (Res δ ρ) → Res δ ρ} {K : Res δ ρ} {xs : List α} {i : Nat} {x : α}  {r : Res δ ρ} (eB : B' = B) (hx : xs[i]? = some x) (hm : forC0 B' K (xs.drop i)  = r) : B x  (forC0 B' K (xs.drop (i + 1))) = r := by
  obtain ⟨hl, he⟩ := List.getElem?_eq_some_iff.mp hx
  rw [List.drop_eq_getElem_cons hl, he] at hm
  have hm2 : B' x  (forC0 B' K (xs.drop (i + 1))) = r := hm
  rw [← eB]; exact hm2
theorem forC0_end {B : α → (Res δ ρ) → Res δ ρ} {K K' : Res δ ρ} {xs : List α}  {r : Res δ ρ} (eK : K' = K) (hm : forC0 B K' (xs.drop xs.length)  = r) : K  = r := by rw [List.drop_length] at hm; rw [← eK]; exact hm
theorem jn0_use {K K' : Res δ ρ}  {r : Res δ ρ} (eK : K' = K) (hm : K'  = r) : K  = r := by rw [← eK]; exact hm
theorem forC0_ind {C : Res δ ρ → Prop} {B : α → (Res δ ρ) → Res δ ρ} {K : Res δ ρ} (xs : List α) (I : Nat → Prop) (hs : ∀ i x , xs[i]? = some x → I i  → ∀ k, (I (i + 1)  → C (k )) → C (B x  k)) (he : I xs.length  → C (K )) : ∀ (j i : Nat) , i + j = xs.length → I i  → C (forC0 B K (xs.drop i) ) := by
  intro j
  induction j with
  | zero => intro i  h hI; rw [show i = xs.length by omega] at hI ⊢; rw [List.drop_length]; exact he  hI
  | succ j ih => intro i  h hI; have hl : i < xs.length := by omega
                 rw [List.drop_eq_getElem_cons hl]; exact hs i _  (List.getElem?_eq_getElem hl) hI _ fun  h' => ih (i + 1)  (by omega) h'
theorem forC0_wp {C : Res δ ρ → Prop} {B : α → (Res δ ρ) → Res δ ρ} {K : Res δ ρ} {xs : List α}  (I : Nat → Prop) (h0 : I 0 ) (hs : ∀ i x , xs[i]? = some x → I i  → ∀ k, (I (i + 1)  → C (k )) → C (B x  k)) (he : I xs.length  → C (K )) : C (forC0 B K xs ) :=
  forC0_ind xs I hs he xs.length 0  (by omega) h0
theorem forC0_run {B : α → (Res δ ρ) → Res δ ρ} {K : Res δ ρ} {xs : List α}  (I : Nat → Prop) (h0 : I 0 ) (hs : ∀ i x , xs[i]? = some x → I i  → I (i + 1)  ∧ ∀ k, B x  k = k ) : I xs.length  ∧ forC0 B K xs  = K  :=
  forC0_wp (C := fun r => I xs.length ∧ r = K) I h0 (fun i x hx hI k hk => by obtain ⟨h1, h2⟩ := hs i x hx hI; rw [h2]; exact hk h1) fun h => ⟨h, rfl⟩
def whileC0 (St : (Res δ ρ) → Res δ ρ) : Nat → Res δ ρ
  | 0 => .bad
  | n + 1 => St  (whileC0 St n)
theorem whileC0_of {St : (Res δ ρ) → Res δ ρ} {n : Nat}  {r : Res δ ρ} (hm : whileC0 St n  = r) : ∃ St', St' = St ∧ whileC0 St' n  = r := ⟨St, rfl, hm⟩
theorem whileC0_at {St St' : (Res δ ρ) → Res δ ρ} {n : Nat}  {r : Res δ ρ} (eS : St' = St) (hb : r ≠ .bad) (hm : whileC0 St' n  = r) : ∃ m, m < n ∧ St  (whileC0 St' m) = r := by
  cases n with
  | zero => exact absurd hm.symm hb
  | succ m => exact ⟨m, Nat.lt_succ_self m, by rw [← eS]; exact hm⟩
theorem whileC0_wp {C : Res δ ρ → Prop} {St : (Res δ ρ) → Res δ ρ} (I : Prop) (μ : Nat) (hs : I  → ∀ k, (I  → μ  < μ  → C (k )) → C (St  k)) : ∀ (n : Nat) , I  → μ  < n → C (whileC0 St n ) := by
  intro n
  induction n with
  | zero => intro  _ h; omega
  | succ n ih => intro  hI h; exact hs  hI _ fun  h1 h2 => ih  h1 (by omega)
end
/-! 1 variables -/
section
variable {α δ ρ : Type} {σ0 : Type} 
def forC1 (B : α → σ0 → (σ0 → Res δ ρ) → Res δ ρ) (K : σ0 → Res δ ρ) : List α → σ0 → Res δ ρ
  | [], s0 => K s0
  | x :: t, s0 => B x s0 (forC1 B K t)
theorem forC1_of {B : α → σ0 → (σ0 → Res δ ρ) → Res δ ρ} {K : σ0 → Res δ ρ} {xs : List α} {s0 : σ0}  {r : Res δ ρ} (hm : forC1 B K xs s0 = r) : ∃ B' K', B' = B ∧ K' = K ∧ forC1 B' K' (xs.drop 0) s0 = r := ⟨B, K, rfl, rfl, hm⟩
theorem forC1_at {B B' : α → σ0 → (σ0 → Res δ ρ) → Res δ ρ} {K : σ0 → Res δ ρ} {xs : List α} {i : Nat} {x : α} {s0 : σ0}  {r : Res δ ρ} (eB : B' = B) (hx : xs[i]? = some x) (hm : forC1 B' K (xs.drop i) s0 = r) : B x s0 (forC1 B' K (xs.drop (i + 1))) = r := by
  obtain ⟨hl, he⟩ := List.getElem?_eq_some_iff.mp hx
  rw [List.drop_eq_getElem_cons hl, he] at hm
  have hm2 : B' x s0 (forC1 B' K (xs.drop (i + 1))) = r := hm
  rw [← eB]; exact hm2
theorem forC1_end {B : α → σ0 → (σ0 → Res δ ρ) → Res δ ρ} {K K' : σ0 → Res δ ρ} {xs : List α} {s0 : σ0}  {r : Res δ ρ} (eK : K' = K) (hm : forC1 B K' (xs.drop xs.length) s0 = r) : K s0 = r := by rw [List.drop_length] at hm; rw [← eK]; exact hm
theorem jn1_use {K K' : σ0 → Res δ ρ} {s0 : σ0}  {r : Res δ ρ} (eK : K' = K) (hm : K' s0 = r) : K s0 = r := by rw [← eK]; exact hm
theorem forC1_ind {C : Res δ ρ → Prop} {B : α → σ0 → (σ0 → Res δ ρ) → Res δ ρ} {K : σ0 → Res δ ρ} (xs : List α) (I : Nat → σ0 → Prop) (hs : ∀ i x s0, xs[i]? = some x → I i s0 → ∀ k, (∀ s0', I (i + 1) s0' → C (k s0')) → C (B x s0 k)) (he : ∀ s0, I xs.length s0 → C (K s0)) : ∀ (j i : Nat) (s0 : σ0) , i + j = xs.length → I i s0 → C (forC1 B K (xs.drop i) s0) := by
  intro j
  induction j with
  | zero => intro i s0 h hI; rw [show i = xs.length by omega] at hI ⊢; rw [List.drop_length]; exact he s0 hI
  | succ j ih => intro i s0 h hI; have hl : i < xs.length := by omega
                 rw [List.drop_eq_getElem_cons hl]; exact hs i _ s0 (List.getElem?_eq_getElem hl) hI _ fun s0' h' => ih (i + 1) s0' (by omega) h'
theorem forC1_wp {C : Res δ ρ → Prop} {B : α → σ0 → (σ0 → Res δ ρ) → Res δ ρ} {K : σ0 → Res δ ρ} {xs : List α} {s0 : σ0}  (I : Nat → σ0 → Prop) (h0 : I 0 s0) (hs : ∀ i x s0, xs[i]? = some x → I i s0 → ∀ k, (∀ s0', I (i + 1) s0' → C (k s0')) → C (B x s0 k)) (he : ∀ s0, I xs.length s0 → C (K s0)) : C (forC1 B K xs s0) :=
  forC1_ind xs I hs he xs.length 0 s0 (by omega) h0
theorem forC1_run {B : α → σ0 → (σ0 → Res δ ρ) → Res δ ρ} {K : σ0 → Res δ ρ} {xs : List α} {s0 : σ0}  (I : Nat → σ0 → Prop) (h0 : I 0 s0) (hs : ∀ i x s0, xs[i]? = some x → I i s0 → ∃ s0', I (i + 1) s0' ∧ ∀ k, B x s0 k = k s0') : ∃ s0', I xs.length s0' ∧ forC1 B K xs s0 = K s0' :=
  forC1_wp (C := fun r => ∃ s0', I xs.length s0' ∧ r = K s0') I h0 (fun i x s0 hx hI k hk => by obtain ⟨s0', h1, h2⟩ := hs i x s0 hx hI; rw [h2]; exact hk _ h1) fun s0 h => ⟨s0, h, rfl⟩
def whileC1 (St : σ0 → (σ0 → Res δ ρ) → Res δ ρ) : Nat → σ0 → Res δ ρ
  | 0, _s0 => .bad
  | n + 1, s0 => St s0 (whileC1 St n)
theorem whileC1_of {St : σ0 → (σ0 → Res δ ρ) → Res δ ρ} {n : Nat} {s0 : σ0}  {r : Res δ ρ} (hm : whileC1 St n s0 = r) : ∃ St', St' = St ∧ whileC1 St' n s0 = r := ⟨St, rfl, hm⟩
theorem whileC1_at {St St' : σ0 → (σ0 → Res δ ρ) → Res δ ρ} {n : Nat} {s0 : σ0}  {r : Res δ ρ} (eS : St' = St) (hb : r ≠ .bad) (hm : whileC1 St' n s0 = r) : ∃ m, m < n ∧ St s0 (whileC1 St' m) = r := by
  cases n with
  | zero => exact absurd hm.symm hb
  | succ m => exact ⟨m, Nat.lt_succ_self m, by rw [← eS]; exact hm⟩
theorem whileC1_wp {C : Res δ ρ → Prop} {St : σ0 → (σ0 → Res δ ρ) → Res δ ρ} (I : σ0 → Prop) (μ : σ0 → Nat) (hs : ∀ s0, I s0 → ∀ k, (∀ s0', I s0' → μ s0' < μ s0 → C (k s0')) → C (St s0 k)) : ∀ (n : Nat) (s0 : σ0) , I s0 → μ s0 < n → C (whileC1 St n s0) := by
  intro n
  induction n with
  | zero => intro s0 _ h; omega
  | succ n ih => intro s0 hI h; exact hs s0 hI _ fun s0' h1 h2 => ih s0' h1 (by omega)
end
/-! 2 variables -/
section
variable {α δ ρ : Type} {σ0 σ1 : Type} 
def forC2 (B : α → σ0 → σ1 → (σ0 → σ1 → Res δ ρ) → Res δ ρ) (K : σ0 → σ1 → Res δ ρ) : List α → σ0 → σ1 → Res δ ρ
  | [], s0, s1 => K s0 s1
  | x :: t, s0, s1 => B x s0 s1 (forC2 B K t)
theorem forC2_of {B : α → σ0 → σ1 → (σ0 → σ1 → Res δ ρ) → Res δ ρ} {K : σ0 → σ1 → Res δ ρ} {xs : List α} {s0 : σ0} {s1 : σ1}  {r : Res δ ρ} (hm : forC2 B K xs s0 s1 = r) : ∃ B' K', B' = B ∧ K' = K ∧ forC2 B' K' (xs.drop 0) s0 s1 = r := ⟨B, K, rfl, rfl, hm⟩
theorem forC2_at {B B' : α → σ0 → σ1 → (σ0 → σ1 → Res δ ρ) → Res δ ρ} {K : σ0 → σ1 → Res δ ρ} {xs : List α} {i : Nat} {x : α} {s0 : σ0} {s1 : σ1}  {r : Res δ ρ} (eB : B' = B) (hx : xs[i]? = some x) (hm : forC2 B' K (xs.drop i) s0 s1 = r) : B x s0 s1 (forC2 B' K (xs.drop (i + 1))) = r := by
  obtain ⟨hl, he⟩ := List.getElem?_eq_some_iff.mp hx
  rw [List.drop_eq_getElem_cons hl, he] at hm
  have hm2 : B' x s0 s1 (forC2 B' K (xs.drop (i + 1))) = r := hm
  rw [← eB]; exact hm2
theorem forC2_end {B : α → σ0 → σ1 → (σ0 → σ1 → Res δ ρ) → Res δ ρ} {K K' : σ0 → σ1 → Res δ ρ} {xs : List α} {s0 : σ0} {s1 : σ1}  {r : Res δ ρ} (eK : K' = K) (hm : forC2 B K' (xs.drop xs.length) s0 s1 = r) : K s0 s1 = r := by rw [List.drop_length] at hm; rw [← eK]; exact hm
theorem jn2_use {K K' : σ0 → σ1 → Res δ ρ} {s0 : σ0} {s1 : σ1}  {r : Res δ ρ} (eK : K' = K) (hm : K' s0 s1 = r) : K s0 s1 = r := by rw [← eK]; exact hm
theorem forC2_ind {C : Res δ ρ → Prop} {B : α → σ0 → σ1 → (σ0 → σ1 → Res δ ρ) → Res δ ρ} {K : σ0 → σ1 → Res δ ρ} (xs : List α) (I : Nat → σ0 → σ1 → Prop) (hs : ∀ i x s0 s1, xs[i]? = some x → I i s0 s1 → ∀ k, (∀ s0' s1', I (i + 1) s0' s1' → C (k s0' s1')) → C (B x s0 s1 k)) (he : ∀ s0 s1, I xs.length s0 s1 → C (K s0 s1)) : ∀ (j i : Nat) (s0 : σ0) (s1 : σ1) , i + j = xs.length → I i s0 s1 → C (forC2 B K (xs.drop i) s0 s1) := by
  intro j
  induction j with
  | zero => intro i s0 s1 h hI; rw [show i = xs.length by omega] at hI ⊢; rw [List.drop_length]; exact he s0 s1 hI
  | succ j ih => intro i s0 s1 h hI; have hl : i < xs.length := by omega
                 rw [List.drop_eq_getElem_cons hl]; exact hs i _ s0 s1 (List.getElem?_eq_getElem hl) hI _ fun s0' s1' h' => ih (i + 1) s0' s1' (by omega) h'
theorem forC2_wp {C : Res δ ρ → Prop} {B : α → σ0 → σ1 → (σ0 → σ1 → Res δ ρ) → Res δ ρ} {K : σ0 → σ1 → Res δ ρ} {xs : List α} {s0 : σ0} {s1 : σ1}  (I : Nat → σ0 → σ1 → Prop) (h0 : I 0 s0 s1) (hs : ∀ i x s0 s1, xs[i]? = some x → I i s0 s1 → ∀ k, (∀ s0' s1', I (i + 1) s0' s1' → C (k s0' s1')) → C (B x s0 s1 k)) (he : ∀ s0 s1, I xs.length s0 s1 → C (K s0 s1)) : C (forC2 B K xs s0 s1) :=
  forC2_ind xs I hs he xs.length 0 s0 s1 (by omega) h0
theorem forC2_run {B : α → σ0 → σ1 → (σ0 → σ1 → Res δ ρ) → Res δ ρ} {K : σ0 → σ1 → Res δ ρ} {xs : List α} {s0 : σ0} {s1 : σ1}  (I : Nat → σ0 → σ1 → Prop) (h0 : I 0 s0 s1) (hs : ∀ i x s0 s1, xs[i]? = some x → I i s0 s1 → ∃ s0' s1', I (i + 1) s0' s1' ∧ ∀ k, B x s0 s1 k = k s0' s1') : ∃ s0' s1', I xs.length s0' s1' ∧ forC2 B K xs s0 s1 = K s0' s1' :=
  forC2_wp (C := fun r => ∃ s0' s1', I xs.length s0' s1' ∧ r = K s0' s1') I h0 (fun i x s0 s1 hx hI k hk => by obtain ⟨s0', s1', h1, h2⟩ := hs i x s0 s1 hx hI; rw [h2]; exact hk _ _ h1) fun s0 s1 h => ⟨s0, s1, h, rfl⟩
def whileC2 (St : σ0 → σ1 → (σ0 → σ1 → Res δ ρ) → Res δ ρ) : Nat → σ0 → σ1 → Res δ ρ
  | 0, _s0, _s1 => .bad
  | n + 1, s0, s1 => St s0 s1 (whileC2 St n)
theorem whileC2_of {St : σ0 → σ1 → (σ0 → σ1 → Res δ ρ) → Res δ ρ} {n : Nat} {s0 : σ0} {s1 : σ1}  {r : Res δ ρ} (hm : whileC2 St n s0 s1 = r) : ∃ St', St' = St ∧ whileC2 St' n s0 s1 = r := ⟨St, rfl, hm⟩
theorem whileC2_at {St St' : σ0 → σ1 → (σ0 → σ1 → Res δ ρ) → Res δ ρ} {n : Nat} {s0 : σ0} {s1 : σ1}  {r : Res δ ρ} (eS : St' = St) (hb : r ≠ .bad) (hm : whileC2 St' n s0 s1 = r) : ∃ m, m < n ∧ St s0 s1 (whileC2 St' m) = r := by
  cases n with
  | zero => exact absurd hm.symm hb
  | succ m => exact ⟨m, Nat.lt_succ_self m, by rw [← eS]; exact hm⟩
theorem whileC2_wp {C : Res δ ρ → Prop} {St : σ0 → σ1 → (σ0 → σ1 → Res δ ρ) → Res δ ρ} (I : σ0 → σ1 → Prop) (μ : σ0 → σ1 → Nat) (hs : ∀ s0 s1, I s0 s1 → ∀ k, (∀ s0' s1', I s0' s1' → μ s0' s1' < μ s0 s1 → C (k s0' s1')) → C (St s0 s1 k)) : ∀ (n : Nat) (s0 : σ0) (s1 : σ1) , I s0 s1 → μ s0 s1 < n → C (whileC2 St n s0 s1) := by
  intro n
  induction n with
  | zero => intro s0 s1 _ h; omega
  | succ n ih => intro s0 s1 hI h; exact hs s0 s1 hI _ fun s0' s1' h1 h2 => ih s0' s1' h1 (by omega)
end
/-! 3 variables -/
section
variable {α δ ρ : Type} {σ0 σ1 σ2 : Type} 
def forC3 (B : α → σ0 → σ1 → σ2 → (σ0 → σ1 → σ2 → Res δ ρ) → Res δ ρ) (K : σ0 → σ1 → σ2 → Res δ ρ) : List α → σ0 → σ1 → σ2 → Res δ ρ
  | [], s0, s1, s2 => K s0 s1 s2
  | x :: t, s0, s1, s2 => B x s0 s1 s2 (forC3 B K t)
theorem forC3_of {B : α → σ0 → σ1 → σ2 → (σ0 → σ1 → σ2 → Res δ ρ) → Res δ ρ} {K : σ0 → σ1 → σ2 → Res δ ρ} {xs : List α} {s0 : σ0} {s1 : σ1} {s2 : σ2}  {r : Res δ ρ} (hm : forC3 B K xs s0 s1 s2 = r) : ∃ B' K', B' = B ∧ K' = K ∧ forC3 B' K' (xs.drop 0) s0 s1 s2 = r := ⟨B, K, rfl, rfl, hm⟩
theorem forC3_at {B B' : α → σ0 → σ1 → σ2 → (σ0 → σ1 → σ2 → Res δ ρ) → Res δ ρ} {K : σ0 → σ1 → σ2 → Res δ ρ} {xs : List α} {i : Nat} {x : α} {s0 : σ0} {s1 : σ1} {s2 : σ2}  {r : Res δ ρ} (eB : B' = B) (hx : xs[i]? = some x) (hm : forC3 B' K (xs.drop i) s0 s1 s2 = r) : B x s0 s1 s2 (forC3 B' K (xs.drop (i + 1))) = r := by
  obtain ⟨hl, he⟩ := List.getElem?_eq_some_iff.mp hx
  rw [List.drop_eq_getElem_cons hl, he] at hm
  have hm2 : B' x s0 s1 s2 (forC3 B' K (xs.drop (i + 1))) = r := hm
  rw [← eB]; exact hm2
theorem forC3_end {B : α → σ0 → σ1 → σ2 → (σ0 → σ1 → σ2 → Res δ ρ) → Res δ ρ} {K K' : σ0 → σ1 → σ2 → Res δ ρ} {xs : List α} {s0 : σ0} {s1 : σ1} {s2 : σ2}  {r : Res δ ρ} (eK : K' = K) (hm : forC3 B K' (xs.drop xs.length) s0 s1 s2 = r) : K s0 s1 s2 = r := by rw [List.drop_length] at hm; rw [← eK]; exact hm
theorem jn3_use {K K' : σ0 → σ1 → σ2 → Res δ ρ} {s0 : σ0} {s1 : σ1} {s2 : σ2}  {r : Res δ ρ} (eK : K' = K) (hm : K' s0 s1 s2 = r) : K s0 s1 s2 = r := by rw [← eK]; exact hm
theorem forC3_ind {C : Res δ ρ → Prop} {B : α → σ0 → σ1 → σ2 → (σ0 → σ1 → σ2 → Res δ ρ) → Res δ ρ} {K : σ0 → σ1 → σ2 → Res δ ρ} (xs : List α) (I : Nat → σ0 → σ1 → σ2 → Prop) (hs : ∀ i x s0 s1 s2, xs[i]? = some x → I i s0 s1 s2 → ∀ k, (∀ s0' s1' s2', I (i + 1) s0' s1' s2' → C (k s0' s1' s2')) → C (B x s0 s1 s2 k)) (he : ∀ s0 s1 s2, I xs.length s0 s1 s2 → C (K s0 s1 s2)) : ∀ (j i : Nat) (s0 : σ0) (s1 : σ1) (s2 : σ2) , i + j = xs.length → I i s0 s1 s2 → C (forC3 B K (xs.drop i) s0 s1 s2) := by
  intro j
  induction j with
  | zero => intro i s0 s1 s2 h hI; rw [show i = xs.length by omega] at hI ⊢; rw [List.drop_length]; exact he s0 s1 s2 hI
  | succ j ih => intro i s0 s1 s2 h hI; have hl : i < xs.length := by omega
                 rw [List.drop_eq_getElem_cons hl]; exact hs i _ s0 s1 s2 (List.getElem?_eq_getElem hl) hI _ fun s0' s1' s2' h' => ih (i + 1) s0' s1' s2' (by omega) h'
theorem forC3_wp {C : Res δ ρ → Prop} {B : α → σ0 → σ1 → σ2 → (σ0 → σ1 → σ2 → Res δ ρ) → Res δ ρ} {K : σ0 → σ1 → σ2 → Res δ ρ} {xs : List α} {s0 : σ0} {s1 : σ1} {s2 : σ2}  (I : Nat → σ0 → σ1 → σ2 → Prop) (h0 : I 0 s0 s1 s2) (hs : ∀ i x s0 s1 s2, xs[i]? = some x → I i s0 s1 s2 → ∀ k, (∀ s0' s1' s2', I (i + 1) s0' s1' s2' → C (k s0' s1' s2')) → C (B x s0 s1 s2 k)) (he : ∀ s0 s1 s2, I xs.length s0 s1 s2 → C (K s0 s1 s2)) : C (forC3 B K xs s0 s1 s2) :=
  forC3_ind xs I hs he xs.length 0 s0 s1 s2 (by omega) h0
theorem forC3_run {B : α → σ0 → σ1 → σ2 → (σ0 → σ1 → σ2 → Res δ ρ) → Res δ ρ} {K : σ0 → σ1 → σ2 → Res δ ρ} {xs : List α} {s0 : σ0} {s1 : σ1} {s2 : σ2}  (I : Nat → σ0 → σ1 → σ2 → Prop) (h0 : I 0 s0 s1 s2) (hs : ∀ i x s0 s1 s2, xs[i]? = some x → I i s0 s1 s2 → ∃ s0' s1' s2', I (i + 1) s0' s1' s2' ∧ ∀ k, B x s0 s1 s2 k = k s0' s1' s2') : ∃ s0' s1' s2', I xs.length s0' s1' s2' ∧ forC3 B K xs s0 s1 s2 = K s0' s1' s2' :=
  forC3_wp (C := fun r => ∃ s0' s1' s2', I xs.length s0' s1' s2' ∧ r = K s0' s1' s2') I h0 (fun i x s0 s1 s2 hx hI k hk => by obtain ⟨s0', s1', s2', h1, h2⟩ := hs i x s0 s1 s2 hx hI; rw [h2]; exact hk _ _ _ h1) fun s0 s1 s2 h => ⟨s0, s1, s2, h, rfl⟩
def whileC3 (St : σ0 → σ1 → σ2 → (σ0 → σ1 → σ2 → Res δ ρ) → Res δ ρ) : Nat → σ0 → σ1 → σ2 → Res δ ρ
  | 0, _s0, _s1, _s2 => .bad
  | n + 1, s0, s1, s2 => St s0 s1 s2 (whileC3 St n)
theorem whileC3_of {St : σ0 → σ1 → σ2 → (σ0 → σ1 → σ2 → Res δ ρ) → Res δ ρ} {n : Nat} {s0 : σ0} {s1 : σ1} {s2 : σ2}  {r : Res δ ρ} (hm : whileC3 St n s0 s1 s2 = r) : ∃ St', St' = St ∧ whileC3 St' n s0 s1 s2 = r := ⟨St, rfl, hm⟩
theorem whileC3_at {St St' : σ0 → σ1 → σ2 → (σ0 → σ1 → σ2 → Res δ ρ) → Res δ ρ} {n : Nat} {s0 : σ0} {s1 : σ1} {s2 : σ2}  {r : Res δ ρ} (eS : St' = St) (hb : r ≠ .bad) (hm : whileC3 St' n s0 s1 s2 = r) : ∃ m, m < n ∧ St s0 s1 s2 (whileC3 St' m) = r := by
  cases n with
  | zero => exact absurd hm.symm hb
  | succ m => exact ⟨m, Nat.lt_succ_self m, by rw [← eS]; exact hm⟩
theorem whileC3_wp {C : Res δ ρ → Prop} {St : σ0 → σ1 → σ2 → (σ0 → σ1 → σ2 → Res δ ρ) → Res δ ρ} (I : σ0 → σ1 → σ2 → Prop) (μ : σ0 → σ1 → σ2 → Nat) (hs : ∀ s0 s1 s2, I s0 s1 s2 → ∀ k, (∀ s0' s1' s2', I s0' s1' s2' → μ s0' s1' s2' < μ s0 s1 s2 → C (k s0' s1' s2')) → C (St s0 s1 s2 k)) : ∀ (n : Nat) (s0 : σ0) (s1 : σ1) (s2 : σ2) , I s0 s1 s2 → μ s0 s1 s2 < n → C (whileC3 St n s0 s1 s2) := by
  intro n
  induction n with
  | zero => intro s0 s1 s2 _ h; omega
  | succ n ih => intro s0 s1 s2 hI h; exact hs s0 s1 s2 hI _ fun s0' s1' s2' h1 h2 => ih s0' s1' s2' h1 (by omega)
end
/-! 4 variables -/
section
variable {α δ ρ : Type} {σ0 σ1 σ2 σ3 : Type} 
def forC4 (B : α → σ0 → σ1 → σ2 → σ3 → (σ0 → σ1 → σ2 → σ3 → Res δ ρ) → Res δ ρ) (K : σ0 → σ1 → σ2 → σ3 → Res δ ρ) : List α → σ0 → σ1 → σ2 → σ3 → Res δ ρ
  | [], s0, s1, s2, s3 => K s0 s1 s2 s3
  | x :: t, s0, s1, s2, s3 => B x s0 s1 s2 s3 (forC4 B K t)
theorem forC4_of {B : α → σ0 → σ1 → σ2 → σ3 → (σ0 → σ1 → σ2 → σ3 → Res δ ρ) → Res δ ρ} {K : σ0 → σ1 → σ2 → σ3 → Res δ ρ} {xs : List α} {s0 : σ0} {s1 : σ1} {s2 : σ2} {s3 : σ3}  {r : Res δ ρ} (hm : forC4 B K xs s0 s1 s2 s3 = r) : ∃ B' K', B' = B ∧ K' = K ∧ forC4 B' K' (xs.drop 0) s0 s1 s2 s3 = r := ⟨B, K, rfl, rfl, hm⟩
theorem forC4_at {B B' : α → σ0 → σ1 → σ2 → σ3 → (σ0 → σ1 → σ2 → σ3 → Res δ ρ) → Res δ ρ} {K : σ0 → σ1 → σ2 → σ3 → Res δ ρ} {xs : List α} {i : Nat} {x : α} {s0 : σ0} {s1 : σ1} {s2 : σ2} {s3 : σ3}  {r : Res δ ρ} (eB : B' = B) (hx : xs[i]? = some x) (hm : forC4 B' K (xs.drop i) s0 s1 s2 s3 = r) : B x s0 s1 s2 s3 (forC4 B' K (xs.drop (i + 1))) = r := by
  obtain ⟨hl, he⟩ := List.getElem?_eq_some_iff.mp hx
  rw [List.drop_eq_getElem_cons hl, he] at hm
  have hm2 : B' x s0 s1 s2 s3 (forC4 B' K (xs.drop (i + 1))) = r := hm
  rw [← eB]; exact hm2
theorem forC4_end {B : α → σ0 → σ1 → σ2 → σ3 → (σ0 → σ1 → σ2 → σ3 → Res δ ρ) → Res δ ρ} {K K' : σ0 → σ1 → σ2 → σ3 → Res δ ρ} {xs : List α} {s0 : σ0} {s1 : σ1} {s2 : σ2} {s3 : σ3}  {r : Res δ ρ} (eK : K' = K) (hm : forC4 B K' (xs.drop xs.length) s0 s1 s2 s3 = r) : K s0 s1 s2 s3 = r := by rw [List.drop_length] at hm; rw [← eK]; exact hm
theorem jn4_use {K K' : σ0 → σ1 → σ2 → σ3 → Res δ ρ} {s0 : σ0} {s1 : σ1} {s2 : σ2} {s3 : σ3}  {r : Res δ ρ} (eK : K' = K) (hm : K' s0 s1 s2 s3 = r) : K s0 s1 s2 s3 = r := by rw [← eK]; exact hm
theorem forC4_ind {C : Res δ ρ → Prop} {B : α → σ0 → σ1 → σ2 → σ3 → (σ0 → σ1 → σ2 → σ3 → Res δ ρ) → Res δ ρ} {K : σ0 → σ1 → σ2 → σ3 → Res δ ρ} (xs : List α) (I : Nat → σ0 → σ1 → σ2 → σ3 → Prop) (hs : ∀ i x s0 s1 s2 s3, xs[i]? = some x → I i s0 s1 s2 s3 → ∀ k, (∀ s0' s1' s2' s3', I (i + 1) s0' s1' s2' s3' → C (k s0' s1' s2' s3')) → C (B x s0 s1 s2 s3 k)) (he : ∀ s0 s1 s2 s3, I xs.length s0 s1 s2 s3 → C (K s0 s1 s2 s3)) : ∀ (j i : Nat) (s0 : σ0) (s1 : σ1) (s2 : σ2) (s3 : σ3) , i + j = xs.length → I i s0 s1 s2 s3 → C (forC4 B K (xs.drop i) s0 s1 s2 s3) := by
  intro j
  induction j with
  | zero => intro i s0 s1 s2 s3 h hI; rw [show i = xs.length by omega] at hI ⊢; rw [List.drop_length]; exact he s0 s1 s2 s3 hI
  | succ j ih => intro i s0 s1 s2 s3 h hI; have hl : i < xs.length := by omega
                 rw [List.drop_eq_getElem_cons hl]; exact hs i _ s0 s1 s2 s3 (List.getElem?_eq_getElem hl) hI _ fun s0' s1' s2' s3' h' => ih (i + 1) s0' s1' s2' s3' (by omega) h'
theorem forC4_wp {C : Res δ ρ → Prop} {B : α → σ0 → σ1 → σ2 → σ3 → (σ0 → σ1 → σ2 → σ3 → Res δ ρ) → Res δ ρ} {K : σ0 → σ1 → σ2 → σ3 → Res δ ρ} {xs : List α} {s0 : σ0} {s1 : σ1} {s2 : σ2} {s3 : σ3}  (I : Nat → σ0 → σ1 → σ2 → σ3 → Prop) (h0 : I 0 s0 s1 s2 s3) (hs : ∀ i x s0 s1 s2 s3, xs[i]? = some x → I i s0 s1 s2 s3 → ∀ k, (∀ s0' s1' s2' s3', I (i + 1) s0' s1' s2' s3' → C (k s0' s1' s2' s3')) → C (B x s0 s1 s2 s3 k)) (he : ∀ s0 s1 s2 s3, I xs.length s0 s1 s2 s3 → C (K s0 s1 s2 s3)) : C (forC4 B K xs s0 s1 s2 s3) :=
  forC4_ind xs I hs he xs.length 0 s0 s1 s2 s3 (by omega) h0
theorem forC4_run {B : α → σ0 → σ1 → σ2 → σ3 → (σ0 → σ1 → σ2 → σ3 → Res δ ρ) → Res δ ρ} {K : σ0 → σ1 → σ2 → σ3 → Res δ ρ} {xs : List α} {s0 : σ0} {s1 : σ1} {s2 : σ2} {s3 : σ3}  (I : Nat → σ0 → σ1 → σ2 → σ3 → Prop) (h0 : I 0 s0 s1 s2 s3) (hs : ∀ i x s0 s1 s2 s3, xs[i]? = some x → I i s0 s1 s2 s3 → ∃ s0' s1' s2' s3', I (i + 1) s0' s1' s2' s3' ∧ ∀ k, B x s0 s1 s2 s3 k = k s0' s1' s2' s3') : ∃ s0' s1' s2' s3', I xs.length s0' s1' s2' s3' ∧ forC4 B K xs s0 s1 s2 s3 = K s0' s1' s2' s3' :=
  forC4_wp (C := fun r => ∃ s0' s1' s2' s3', I xs.length s0' s1' s2' s3' ∧ r = K s0' s1' s2' s3') I h0 (fun i x s0 s1 s2 s3 hx hI k hk => by obtain ⟨s0', s1', s2', s3', h1, h2⟩ := hs i x s0 s1 s2 s3 hx hI; rw [h2]; exact hk _ _ _ _ h1) fun s0 s1 s2 s3 h => ⟨s0, s1, s2, s3, h, rfl⟩
def whileC4 (St : σ0 → σ1 → σ2 → σ3 → (σ0 → σ1 → σ2 → σ3 → Res δ ρ) → Res δ ρ) : Nat → σ0 → σ1 → σ2 → σ3 → Res δ ρ
  | 0, _s0, _s1, _s2, _s3 => .bad
  | n + 1, s0, s1, s2, s3 => St s0 s1 s2 s3 (whileC4 St n)
theorem whileC4_of {St : σ0 → σ1 → σ2 → σ3 → (σ0 → σ1 → σ2 → σ3 → Res δ ρ) → Res δ ρ} {n : Nat} {s0 : σ0} {s1 : σ1} {s2 : σ2} {s3 : σ3}  {r : Res δ ρ} (hm : whileC4 St n s0 s1 s2 s3 = r) : ∃ St', St' = St ∧ whileC4 St' n s0 s1 s2 s3 = r := ⟨St, rfl, hm⟩
theorem whileC4_at {St St' : σ0 → σ1 → σ2 → σ3 → (σ0 → σ1 → σ2 → σ3 → Res δ ρ) → Res δ ρ} {n : Nat} {s0 : σ0} {s1 : σ1} {s2 : σ2} {s3 : σ3}  {r : Res δ ρ} (eS : St' = St) (hb : r ≠ .bad) (hm : whileC4 St' n s0 s1 s2 s3 = r) : ∃ m, m < n ∧ St s0 s1 s2 s3 (whileC4 St' m) = r := by
  cases n with
  | zero => exact absurd hm.symm hb
  | succ m => exact ⟨m, Nat.lt_succ_self m, by rw [← eS]; exact hm⟩
theorem whileC4_wp {C : Res δ ρ → Prop} {St : σ0 → σ1 → σ2 → σ3 → (σ0 → σ1 → σ2 → σ3 → Res δ ρ) → Res δ ρ} (I : σ0 → σ1 → σ2 → σ3 → Prop) (μ : σ0 → σ1 → σ2 → σ3 → Nat) (hs : ∀ s0 s1 s2 s3, I s0 s1 s2 s3 → ∀ k, (∀ s0' s1' s2' s3', I s0' s1' s2' s3' → μ s0' s1' s2' s3' < μ s0 s1 s2 s3 → C (k s0' s1' s2' s3')) → C (St s0 s1 s2 s3 k)) : ∀ (n : Nat) (s0 : σ0) (s1 : σ1) (s2 : σ2) (s3 : σ3) , I s0 s1 s2 s3 → μ s0 s1 s2 s3 < n → C (whileC4 St n s0 s1 s2 s3) := by
  intro n
  induction n with
  | zero => intro s0 s1 s2 s3 _ h; omega
  | succ n ih => intro s0 s1 s2 s3 hI h; exact hs s0 s1 s2 s3 hI _ fun s0' s1' s2' s3' h1 h2 => ih s0' s1' s2' s3' h1 (by omega)
end
/-! 5 variables -/
section
variable {α δ ρ : Type} {σ0 σ1 σ2 σ3 σ4 : Type} 
def forC5 (B : α → σ0 → σ1 → σ2 → σ3 → σ4 → (σ0 → σ1 → σ2 → σ3 → σ4 → Res δ ρ) → Res δ ρ) (K : σ0 → σ1 → σ2 → σ3 → σ4 → Res δ ρ) : List α → σ0 → σ1 → σ2 → σ3 → σ4 → Res δ ρ
  | [], s0, s1, s2, s3, s4 => K s0 s1 s2 s3 s4
  | x :: t, s0, s1, s2, s3, s4 => B x s0 s1 s2 s3 s4 (forC5 B K t)
theorem forC5_of {B : α → σ0 → σ1 → σ2 → σ3 → σ4 → (σ0 → σ1 → σ2 → σ3 → σ4 → Res δ ρ) → Res δ ρ} {K : σ0 → σ1 → σ2 → σ3 → σ4 → Res δ ρ} {xs : List α} {s0 : σ0} {s1 : σ1} {s2 : σ2} {s3 : σ3} {s4 : σ4}  {r : Res δ ρ} (hm : forC5 B K xs s0 s1 s2 s3 s4 = r) : ∃ B' K', B' = B ∧ K' = K ∧ forC5 B' K' (xs.drop 0) s0 s1 s2 s3 s4 = r := ⟨B, K, rfl, rfl, hm⟩
theorem forC5_at {B B' : α → σ0 → σ1 → σ2 → σ3 → σ4 → (σ0 → σ1 → σ2 → σ3 → σ4 → Res δ ρ) → Res δ ρ} {K : σ0 → σ1 → σ2 → σ3 → σ4 → Res δ ρ} {xs : List α} {i : Nat} {x : α} {s0 : σ0} {s1 : σ1} {s2 : σ2} {s3 : σ3} {s4 : σ4}  {r : Res δ ρ} (eB : B' = B) (hx : xs[i]? = some x) (hm : forC5 B' K (xs.drop i) s0 s1 s2 s3 s4 = r) : B x s0 s1 s2 s3 s4 (forC5 B' K (xs.drop (i + 1))) = r := by
  obtain ⟨hl, he⟩ := List.getElem?_eq_some_iff.mp hx
  rw [List.drop_eq_getElem_cons hl, he] at hm
  have hm2 : B' x s0 s1 s2 s3 s4 (forC5 B' K (xs.drop (i + 1))) = r := hm
  rw [← eB]; exact hm2
theorem forC5_end {B : α → σ0 → σ1 → σ2 → σ3 → σ4 → (σ0 → σ1 → σ2 → σ3 → σ4 → Res δ ρ) → Res δ ρ} {K K' : σ0 → σ1 → σ2 → σ3 → σ4 → Res δ ρ} {xs : List α} {s0 : σ0} {s1 : σ1} {s2 : σ2} {s3 : σ3} {s4 : σ4}  {r : Res δ ρ} (eK : K' = K) (hm : forC5 B K' (xs.drop xs.length) s0 s1 s2 s3 s4 = r) : K s0 s1 s2 s3 s4 = r := by rw [List.drop_length] at hm; rw [← eK]; exact hm
theorem jn5_use {K K' : σ0 → σ1 → σ2 → σ3 → σ4 → Res δ ρ} {s0 : σ0} {s1 : σ1} {s2 : σ2} {s3 : σ3} {s4 : σ4}  {r : Res δ ρ} (eK : K' = K) (hm : K' s0 s1 s2 s3 s4 = r) : K s0 s1 s2 s3 s4 = r := by rw [← eK]; exact hm
theorem forC5_ind {C : Res δ ρ → Prop} {B : α → σ0 → σ1 → σ2 → σ3 → σ4 → (σ0 → σ1 → σ2 → σ3 → σ4 → Res δ ρ) → Res δ ρ} {K : σ0 → σ1 → σ2 → σ3 → σ4 → Res δ ρ} (xs : List α) (I : Nat → σ0 → σ1 → σ2 → σ3 → σ4 → Prop) (hs : ∀ i x s0 s1 s2 s3 s4, xs[i]? = some x → I i s0 s1 s2 s3 s4 → ∀ k, (∀ s0' s1' s2' s3' s4', I (i + 1) s0' s1' s2' s3' s4' → C (k s0' s1' s2' s3' s4')) → C (B x s0 s1 s2 s3 s4 k)) (he : ∀ s0 s1 s2 s3 s4, I xs.length s0 s1 s2 s3 s4 → C (K s0 s1 s2 s3 s4)) : ∀ (j i : Nat) (s0 : σ0) (s1 : σ1) (s2 : σ2) (s3 : σ3) (s4 : σ4) , i + j = xs.length → I i s0 s1 s2 s3 s4 → C (forC5 B K (xs.drop i) s0 s1 s2 s3 s4) := by
  intro j
  induction j with
  | zero => intro i s0 s1 s2 s3 s4 h hI; rw [show i = xs.length by omega] at hI ⊢; rw [List.drop_length]; exact he s0 s1 s2 s3 s4 hI
  | succ j ih => intro i s0 s1 s2 s3 s4 h hI; have hl : i < xs.length := by omega
                 rw [List.drop_eq_getElem_cons hl]; exact hs i _ s0 s1 s2 s3 s4 (List.getElem?_eq_getElem hl) hI _ fun s0' s1' s2' s3' s4' h' => ih (i + 1) s0' s1' s2' s3' s4' (by omega) h'
theorem forC5_wp {C : Res δ ρ → Prop} {B : α → σ0 → σ1 → σ2 → σ3 → σ4 → (σ0 → σ1 → σ2 → σ3 → σ4 → Res δ ρ) → Res δ ρ} {K : σ0 → σ1 → σ2 → σ3 → σ4 → Res δ ρ} {xs : List α} {s0 : σ0} {s1 : σ1} {s2 : σ2} {s3 : σ3} {s4 : σ4}  (I : Nat → σ0 → σ1 → σ2 → σ3 → σ4 → Prop) (h0 : I 0 s0 s1 s2 s3 s4) (hs : ∀ i x s0 s1 s2 s3 s4, xs[i]? = some x → I i s0 s1 s2 s3 s4 → ∀ k, (∀ s0' s1' s2' s3' s4', I (i + 1) s0' s1' s2' s3' s4' → C (k s0' s1' s2' s3' s4')) → C (B x s0 s1 s2 s3 s4 k)) (he : ∀ s0 s1 s2 s3 s4, I xs.length s0 s1 s2 s3 s4 → C (K s0 s1 s2 s3 s4)) : C (forC5 B K xs s0 s1 s2 s3 s4) :=
  forC5_ind xs I hs he xs.length 0 s0 s1 s2 s3 s4 (by omega) h0
theorem forC5_run {B : α → σ0 → σ1 → σ2 → σ3 → σ4 → (σ0 → σ1 → σ2 → σ3 → σ4 → Res δ ρ) → Res δ ρ} {K : σ0 → σ1 → σ2 → σ3 → σ4 → Res δ ρ} {xs : List α} {s0 : σ0} {s1 : σ1} {s2 : σ2} {s3 : σ3} {s4 : σ4}  (I : Nat → σ0 → σ1 → σ2 → σ3 → σ4 → Prop) (h0 : I 0 s0 s1 s2 s3 s4) (hs : ∀ i x s0 s1 s2 s3 s4, xs[i]? = some x → I i s0 s1 s2 s3 s4 → ∃ s0' s1' s2' s3' s4', I (i + 1) s0' s1' s2' s3' s4' ∧ ∀ k, B x s0 s1 s2 s3 s4 k = k s0' s1' s2' s3' s4') : ∃ s0' s1' s2' s3' s4', I xs.length s0' s1' s2' s3' s4' ∧ forC5 B K xs s0 s1 s2 s3 s4 = K s0' s1' s2' s3' s4' :=
  forC5_wp (C := fun r => ∃ s0' s1' s2' s3' s4', I xs.length s0' s1' s2' s3' s4' ∧ r = K s0' s1' s2' s3' s4') I h0 (fun i x s0 s1 s2 s3 s4 hx hI k hk => by obtain ⟨s0', s1', s2', s3', s4', h1, h2⟩ := hs i x s0 s1 s2 s3 s4 hx hI; rw [h2]; exact hk _ _ _ _ _ h1) fun s0 s1 s2 s3 s4 h => ⟨s0, s1, s2, s3, s4, h, rfl⟩
def whileC5 (St : σ0 → σ1 → σ2 → σ3 → σ4 → (σ0 → σ1 → σ2 → σ3 → σ4 → Res δ ρ) → Res δ ρ) : Nat → σ0 → σ1 → σ2 → σ3 → σ4 → Res δ ρ
  | 0, _s0, _s1, _s2, _s3, _s4 => .bad
  | n + 1, s0, s1, s2, s3, s4 => St s0 s1 s2 s3 s4 (whileC5 St n)
theorem whileC5_of {St : σ0 → σ1 → σ2 → σ3 → σ4 → (σ0 → σ1 → σ2 → σ3 → σ4 → Res δ ρ) → Res δ ρ} {n : Nat} {s0 : σ0} {s1 : σ1} {s2 : σ2} {s3 : σ3} {s4 : σ4}  {r : Res δ ρ} (hm : whileC5 St n s0 s1 s2 s3 s4 = r) : ∃ St', St' = St ∧ whileC5 St' n s0 s1 s2 s3 s4 = r := ⟨St, rfl, hm⟩
theorem whileC5_at {St St' : σ0 → σ1 → σ2 → σ3 → σ4 → (σ0 → σ1 → σ2 → σ3 → σ4 → Res δ ρ) → Res δ ρ} {n : Nat} {s0 : σ0} {s1 : σ1} {s2 : σ2} {s3 : σ3} {s4 : σ4}  {r : Res δ ρ} (eS : St' = St) (hb : r ≠ .bad) (hm : whileC5 St' n s0 s1 s2 s3 s4 = r) : ∃ m, m < n ∧ St s0 s1 s2 s3 s4 (whileC5 St' m) = r := by
  cases n with
  | zero => exact absurd hm.symm hb
  | succ m => exact ⟨m, Nat.lt_succ_self m, by rw [← eS]; exact hm⟩
theorem whileC5_wp {C : Res δ ρ → Prop} {St : σ0 → σ1 → σ2 → σ3 → σ4 → (σ0 → σ1 → σ2 → σ3 → σ4 → Res δ ρ) → Res δ ρ} (I : σ0 → σ1 → σ2 → σ3 → σ4 → Prop) (μ : σ0 → σ1 → σ2 → σ3 → σ4 → Nat) (hs : ∀ s0 s1 s2 s3 s4, I s0 s1 s2 s3 s4 → ∀ k, (∀ s0' s1' s2' s3' s4', I s0' s1' s2' s3' s4' → μ s0' s1' s2' s3' s4' < μ s0 s1 s2 s3 s4 → C (k s0' s1' s2' s3' s4')) → C (St s0 s1 s2 s3 s4 k)) : ∀ (n : Nat) (s0 : σ0) (s1 : σ1) (s2 : σ2) (s3 : σ3) (s4 : σ4) , I s0 s1 s2 s3 s4 → μ s0 s1 s2 s3 s4 < n → C (whileC5 St n s0 s1 s2 s3 s4) := by
  intro n
  induction n with
  | zero => intro s0 s1 s2 s3 s4 _ h; omega
  | succ n ih => intro s0 s1 s2 s3 s4 hI h; exact hs s0 s1 s2 s3 s4 hI _ fun s0' s1' s2' s3' s4' h1 h2 => ih s0' s1' s2' s3' s4' h1 (by omega)
end
/-! 6 variables -/
section
variable {α δ ρ : Type} {σ0 σ1 σ2 σ3 σ4 σ5 : Type} 
def forC6 (B : α → σ0 → σ1 → σ2 → σ3 → σ4 → σ5 → (σ0 → σ1 → σ2 → σ3 → σ4 → σ5 → Res δ ρ) → Res δ ρ) (K : σ0 → σ1 → σ2 → σ3 → σ4 → σ5 → Res δ ρ) : List α → σ0 → σ1 → σ2 → σ3 → σ4 → σ5 → Res δ ρ
  | [], s0, s1, s2, s3, s4, s5 => K s0 s1 s2 s3 s4 s5
  | x :: t, s0, s1, s2, s3, s4, s5 => B x s0 s1 s2 s3 s4 s5 (forC6 B K t)
theorem forC6_of {B : α → σ0 → σ1 → σ2 → σ3 → σ4 → σ5 → (σ0 → σ1 → σ2 → σ3 → σ4 → σ5 → Res δ ρ) → Res δ ρ} {K : σ0 → σ1 → σ2 → σ3 → σ4 → σ5 → Res δ ρ} {xs : List α} {s0 : σ0} {s1 : σ1} {s2 : σ2} {s3 : σ3} {s4 : σ4} {s5 : σ5}  {r : Res δ ρ} (hm : forC6 B K xs s0 s1 s2 s3 s4 s5 = r) : ∃ B' K', B' = B ∧ K' = K ∧ forC6 B' K' (xs.drop 0) s0 s1 s2 s3 s4 s5 = r := ⟨B, K, rfl, rfl, hm⟩
theorem forC6_at {B B' : α → σ0 → σ1 → σ2 → σ3 → σ4 → σ5 → (σ0 → σ1 → σ2 → σ3 → σ4 → σ5 → Res δ ρ) → Res δ ρ} {K : σ0 → σ1 → σ2 → σ3 → σ4 → σ5 → Res δ ρ} {xs : List α} {i : Nat} {x : α} {s0 : σ0} {s1 : σ1} {s2 : σ2} {s3 : σ3} {s4 : σ4} {s5 : σ5}  {r : Res δ ρ} (eB : B' = B) (hx : xs[i]? = some x) (hm : forC6 B' K (xs.drop i) s0 s1 s2 s3 s4 s5 = r) : B x s0 s1 s2 s3 s4 s5 (forC6 B' K (xs.drop (i + 1))) = r := by
  obtain ⟨hl, he⟩ := List.getElem?_eq_some_iff.mp hx
  rw [List.drop_eq_getElem_cons hl, he] at hm
  have hm2 : B' x s0 s1 s2 s3 s4 s5 (forC6 B' K (xs.drop (i + 1))) = r := hm
  rw [← eB]; exact hm2
theorem forC6_end {B : α → σ0 → σ1 → σ2 → σ3 → σ4 → σ5 → (σ0 → σ1 → σ2 → σ3 → σ4 → σ5 → Res δ ρ) → Res δ ρ} {K K' : σ0 → σ1 → σ2 → σ3 → σ4 → σ5 → Res δ ρ} {xs : List α} {s0 : σ0} {s1 : σ1} {s2 : σ2} {s3 : σ3} {s4 : σ4} {s5 : σ5}  {r : Res δ ρ} (eK : K' = K) (hm : forC6 B K' (xs.drop xs.length) s0 s1 s2 s3 s4 s5 = r) : K s0 s1 s2 s3 s4 s5 = r := by rw [List.drop_length] at hm; rw [← eK]; exact hm
theorem jn6_use {K K' : σ0 → σ1 → σ2 → σ3 → σ4 → σ5 → Res δ ρ} {s0 : σ0} {s1 : σ1} {s2 : σ2} {s3 : σ3} {s4 : σ4} {s5 : σ5}  {r : Res δ ρ} (eK : K' = K) (hm : K' s0 s1 s2 s3 s4 s5 = r) : K s0 s1 s2 s3 s4 s5 = r := by rw [← eK]; exact hm
theorem forC6_ind {C : Res δ ρ → Prop} {B : α → σ0 → σ1 → σ2 → σ3 → σ4 → σ5 → (σ0 → σ1 → σ2 → σ3 → σ4 → σ5 → Res δ ρ) → Res δ ρ} {K : σ0 → σ1 → σ2 → σ3 → σ4 → σ5 → Res δ ρ} (xs : List α) (I : Nat → σ0 → σ1 → σ2 → σ3 → σ4 → σ5 → Prop) (hs : ∀ i x s0 s1 s2 s3 s4 s5, xs[i]? = some x → I i s0 s1 s2 s3 s4 s5 → ∀ k, (∀ s0' s1' s2' s3' s4' s5', I (i + 1) s0' s1' s2' s3' s4' s5' → C (k s0' s1' s2' s3' s4' s5')) → C (B x s0 s1 s2 s3 s4 s5 k)) (he : ∀ s0 s1 s2 s3 s4 s5, I xs.length s0 s1 s2 s3 s4 s5 → C (K s0 s1 s2 s3 s4 s5)) : ∀ (j i : Nat) (s0 : σ0) (s1 : σ1) (s2 : σ2) (s3 : σ3) (s4 : σ4) (s5 : σ5) , i + j = xs.length → I i s0 s1 s2 s3 s4 s5 → C (forC6 B K (xs.drop i) s0 s1 s2 s3 s4 s5) := by
  intro j
  induction j with
  | zero => intro i s0 s1 s2 s3 s4 s5 h hI; rw [show i = xs.length by omega] at hI ⊢; rw [List.drop_length]; exact he s0 s1 s2 s3 s4 s5 hI
  | succ j ih => intro i s0 s1 s2 s3 s4 s5 h hI; have hl : i < xs.length := by omega
                 rw [List.drop_eq_getElem_cons hl]; exact hs i _ s0 s1 s2 s3 s4 s5 (List.getElem?_eq_getElem hl) hI _ fun s0' s1' s2' s3' s4' s5' h' => ih (i + 1) s0' s1' s2' s3' s4' s5' (by omega) h'
theorem forC6_wp {C : Res δ ρ → Prop} {B : α → σ0 → σ1 → σ2 → σ3 → σ4 → σ5 → (σ0 → σ1 → σ2 → σ3 → σ4 → σ5 → Res δ ρ) → Res δ ρ} {K : σ0 → σ1 → σ2 → σ3 → σ4 → σ5 → Res δ ρ} {xs : List α} {s0 : σ0} {s1 : σ1} {s2 : σ2} {s3 : σ3} {s4 : σ4} {s5 : σ5}  (I : Nat → σ0 → σ1 → σ2 → σ3 → σ4 → σ5 → Prop) (h0 : I 0 s0 s1 s2 s3 s4 s5) (hs : ∀ i x s0 s1 s2 s3 s4 s5, xs[i]? = some x → I i s0 s1 s2 s3 s4 s5 → ∀ k, (∀ s0' s1' s2' s3' s4' s5', I (i + 1) s0' s1' s2' s3' s4' s5' → C (k s0' s1' s2' s3' s4' s5')) → C (B x s0 s1 s2 s3 s4 s5 k)) (he : ∀ s0 s1 s2 s3 s4 s5, I xs.length s0 s1 s2 s3 s4 s5 → C (K s0 s1 s2 s3 s4 s5)) : C (forC6 B K xs s0 s1 s2 s3 s4 s5) :=
  forC6_ind xs I hs he xs.length 0 s0 s1 s2 s3 s4 s5 (by omega) h0
theorem forC6_run {B : α → σ0 → σ1 → σ2 → σ3 → σ4 → σ5 → (σ0 → σ1 → σ2 → σ3 → σ4 → σ5 → Res δ ρ) → Res δ ρ} {K : σ0 → σ1 → σ2 → σ3 → σ4 → σ5 → Res δ ρ} {xs : List α} {s0 : σ0} {s1 : σ1} {s2 : σ2} {s3 : σ3} {s4 : σ4} {s5 : σ5}  (I : Nat → σ0 → σ1 → σ2 → σ3 → σ4 → σ5 → Prop) (h0 : I 0 s0 s1 s2 s3 s4 s5) (hs : ∀ i x s0 s1 s2 s3 s4 s5, xs[i]? = some x → I i s0 s1 s2 s3 s4 s5 → ∃ s0' s1' s2' s3' s4' s5', I (i + 1) s0' s1' s2' s3' s4' s5' ∧ ∀ k, B x s0 s1 s2 s3 s4 s5 k = k s0' s1' s2' s3' s4' s5') : ∃ s0' s1' s2' s3' s4' s5', I xs.length s0' s1' s2' s3' s4' s5' ∧ forC6 B K xs s0 s1 s2 s3 s4 s5 = K s0' s1' s2' s3' s4' s5' :=
  forC6_wp (C := fun r => ∃ s0' s1' s2' s3' s4' s5', I xs.length s0' s1' s2' s3' s4' s5' ∧ r = K s0' s1' s2' s3' s4' s5') I h0 (fun i x s0 s1 s2 s3 s4 s5 hx hI k hk => by obtain ⟨s0', s1', s2', s3', s4', s5', h1, h2⟩ := hs i x s0 s1 s2 s3 s4 s5 hx hI; rw [h2]; exact hk _ _ _ _ _ _ h1) fun s0 s1 s2 s3 s4 s5 h => ⟨s0, s1, s2, s3, s4, s5, h, rfl⟩
def whileC6 (St : σ0 → σ1 → σ2 → σ3 → σ4 → σ5 → (σ0 → σ1 → σ2 → σ3 → σ4 → σ5 → Res δ ρ) → Res δ ρ) : Nat → σ0 → σ1 → σ2 → σ3 → σ4 → σ5 → Res δ ρ
  | 0, _s0, _s1, _s2, _s3, _s4, _s5 => .bad
  | n + 1, s0, s1, s2, s3, s4, s5 => St s0 s1 s2 s3 s4 s5 (whileC6 St n)
theorem whileC6_of {St : σ0 → σ1 → σ2 → σ3 → σ4 → σ5 → (σ0 → σ1 → σ2 → σ3 → σ4 → σ5 → Res δ ρ) → Res δ ρ} {n : Nat} {s0 : σ0} {s1 : σ1} {s2 : σ2} {s3 : σ3} {s4 : σ4} {s5 : σ5}  {r : Res δ ρ} (hm : whileC6 St n s0 s1 s2 s3 s4 s5 = r) : ∃ St', St' = St ∧ whileC6 St' n s0 s1 s2 s3 s4 s5 = r := ⟨St, rfl, hm⟩
theorem whileC6_at {St St' : σ0 → σ1 → σ2 → σ3 → σ4 → σ5 → (σ0 → σ1 → σ2 → σ3 → σ4 → σ5 → Res δ ρ) → Res δ ρ} {n : Nat} {s0 : σ0} {s1 : σ1} {s2 : σ2} {s3 : σ3} {s4 : σ4} {s5 : σ5}  {r : Res δ ρ} (eS : St' = St) (hb : r ≠ .bad) (hm : whileC6 St' n s0 s1 s2 s3 s4 s5 = r) : ∃ m, m < n ∧ St s0 s1 s2 s3 s4 s5 (whileC6 St' m) = r := by
  cases n with
  | zero => exact absurd hm.symm hb
  | succ m => exact ⟨m, Nat.lt_succ_self m, by rw [← eS]; exact hm⟩
theorem whileC6_wp {C : Res δ ρ → Prop} {St : σ0 → σ1 → σ2 → σ3 → σ4 → σ5 → (σ0 → σ1 → σ2 → σ3 → σ4 → σ5 → Res δ ρ) → Res δ ρ} (I : σ0 → σ1 → σ2 → σ3 → σ4 → σ5 → Prop) (μ : σ0 → σ1 → σ2 → σ3 → σ4 → σ5 → Nat) (hs : ∀ s0 s1 s2 s3 s4 s5, I s0 s1 s2 s3 s4 s5 → ∀ k, (∀ s0' s1' s2' s3' s4' s5', I s0' s1' s2' s3' s4' s5' → μ s0' s1' s2' s3' s4' s5' < μ s0 s1 s2 s3 s4 s5 → C (k s0' s1' s2' s3' s4' s5')) → C (St s0 s1 s2 s3 s4 s5 k)) : ∀ (n : Nat) (s0 : σ0) (s1 : σ1) (s2 : σ2) (s3 : σ3) (s4 : σ4) (s5 : σ5) , I s0 s1 s2 s3 s4 s5 → μ s0 s1 s2 s3 s4 s5 < n → C (whileC6 St n s0 s1 s2 s3 s4 s5) := by
  intro n
  induction n with
  | zero => intro s0 s1 s2 s3 s4 s5 _ h; omega
  | succ n ih => intro s0 s1 s2 s3 s4 s5 hI h; exact hs s0 s1 s2 s3 s4 s5 hI _ fun s0' s1' s2' s3' s4' s5' h1 h2 => ih s0' s1' s2' s3' s4' s5' h1 (by omega)
end
/-! 7 variables -/
section
variable {α δ ρ : Type} {σ0 σ1 σ2 σ3 σ4 σ5 σ6 : Type} 
def forC7 (B : α → σ0 → σ1 → σ2 → σ3 → σ4 → σ5 → σ6 → (σ0 → σ1 → σ2 → σ3 → σ4 → σ5 → σ6 → Res δ ρ) → Res δ ρ) (K : σ0 → σ1 → σ2 → σ3 → σ4 → σ5 → σ6 → Res δ ρ) : List α → σ0 → σ1 → σ2 → σ3 → σ4 → σ5 → σ6 → Res δ ρ
  | [], s0, s1, s2, s3, s4, s5, s6 => K s0 s1 s2 s3 s4 s5 s6
  | x :: t, s0, s1, s2, s3, s4, s5, s6 => B x s0 s1 s2 s3 s4 s5 s6 (forC7 B K t)
theorem forC7_of {B : α → σ0 → σ1 → σ2 → σ3 → σ4 → σ5 → σ6 → (σ0 → σ1 → σ2 → σ3 → σ4 → σ5 → σ6 → Res δ ρ) → Res δ ρ} {K : σ0 → σ1 → σ2 → σ3 → σ4 → σ5 → σ6 → Res δ ρ} {xs : List α} {s0 : σ0} {s1 : σ1} {s2 : σ2} {s3 : σ3} {s4 : σ4} {s5 : σ5} {s6 : σ6}  {r : Res δ ρ} (hm : forC7 B K xs s0 s1 s2 s3 s4 s5 s6 = r) : ∃ B' K', B' = B ∧ K' = K ∧ forC7 B' K' (xs.drop 0) s0 s1 s2 s3 s4 s5 s6 = r := ⟨B, K, rfl, rfl, hm⟩
theorem forC7_at {B B' : α → σ0 → σ1 → σ2 → σ3 → σ4 → σ5 → σ6 → (σ0 → σ1 → σ2 → σ3 → σ4 → σ5 → σ6 → Res δ ρ) → Res δ ρ} {K : σ0 → σ1 → σ2 → σ3 → σ4 → σ5 → σ6 → Res δ ρ} {xs : List α} {i : Nat} {x : α} {s0 : σ0} {s1 : σ1} {s2 : σ2} {s3 : σ3} {s4 : σ4} {s5 : σ5} {s6 : σ6}  {r : Res δ ρ} (eB : B' = B) (hx : xs[i]? = some x) (hm : forC7 B' K (xs.drop i) s0 s1 s2 s3 s4 s5 s6 = r) : B x s0 s1 s2 s3 s4 s5 s6 (forC7 B' K (xs.drop (i + 1))) = r := by
  obtain ⟨hl, he⟩ := List.getElem?_eq_some_iff.mp hx
  rw [List.drop_eq_getElem_cons hl, he] at hm
  have hm2 : B' x s0 s1 s2 s3 s4 s5 s6 (forC7 B' K (xs.drop (i + 1))) = r := hm
  rw [← eB]; exact hm2
theorem forC7_end {B : α → σ0 → σ1 → σ2 → σ3 → σ4 → σ5 → σ6 → (σ0 → σ1 → σ2 → σ3 → σ4 → σ5 → σ6 → Res δ ρ) → Res δ ρ} {K K' : σ0 → σ1 → σ2 → σ3 → σ4 → σ5 → σ6 → Res δ ρ} {xs : List α} {s0 : σ0} {s1 : σ1} {s2 : σ2} {s3 : σ3} {s4 : σ4} {s5 : σ5} {s6 : σ6}  {r : Res δ ρ} (eK : K' = K) (hm : forC7 B K' (xs.drop xs.length) s0 s1 s2 s3 s4 s5 s6 = r) : K s0 s1 s2 s3 s4 s5 s6 = r := by rw [List.drop_length] at hm; rw [← eK]; exact hm
theorem jn7_use {K K' : σ0 → σ1 → σ2 → σ3 → σ4 → σ5 → σ6 → Res δ ρ} {s0 : σ0} {s1 : σ1} {s2 : σ2} {s3 : σ3} {s4 : σ4} {s5 : σ5} {s6 : σ6}  {r : Res δ ρ} (eK : K' = K) (hm : K' s0 s1 s2 s3 s4 s5 s6 = r) : K s0 s1 s2 s3 s4 s5 s6 = r := by rw [← eK]; exact hm
theorem forC7_ind {C : Res δ ρ → Prop} {B : α → σ0 → σ1 → σ2 → σ3 → σ4 → σ5 → σ6 → (σ0 → σ1 → σ2 → σ3 → σ4 → σ5 → σ6 → Res δ ρ) → Res δ ρ} {K : σ0 → σ1 → σ2 → σ3 → σ4 → σ5 → σ6 → Res δ ρ} (xs : List α) (I : Nat → σ0 → σ1 → σ2 → σ3 → σ4 → σ5 → σ6 → Prop) (hs : ∀ i x s0 s1 s2 s3 s4 s5 s6, xs[i]? = some x → I i s0 s1 s2 s3 s4 s5 s6 → ∀ k, (∀ s0' s1' s2' s3' s4' s5' s6', I (i + 1) s0' s1' s2' s3' s4' s5' s6' → C (k s0' s1' s2' s3' s4' s5' s6')) → C (B x s0 s1 s2 s3 s4 s5 s6 k)) (he : ∀ s0 s1 s2 s3 s4 s5 s6, I xs.length s0 s1 s2 s3 s4 s5 s6 → C (K s0 s1 s2 s3 s4 s5 s6)) : ∀ (j i : Nat) (s0 : σ0) (s1 : σ1) (s2 : σ2) (s3 : σ3) (s4 : σ4) (s5 : σ5) (s6 : σ6) , i + j = xs.length → I i s0 s1 s2 s3 s4 s5 s6 → C (forC7 B K (xs.drop i) s0 s1 s2 s3 s4 s5 s6) := by
  intro j
  induction j with
  | zero => intro i s0 s1 s2 s3 s4 s5 s6 h hI; rw [show i = xs.length by omega] at hI ⊢; rw [List.drop_length]; exact he s0 s1 s2 s3 s4 s5 s6 hI
  | succ j ih => intro i s0 s1 s2 s3 s4 s5 s6 h hI; have hl : i < xs.length := by omega
                 rw [List.drop_eq_getElem_cons hl]; exact hs i _ s0 s1 s2 s3 s4 s5 s6 (List.getElem?_eq_getElem hl) hI _ fun s0' s1' s2' s3' s4' s5' s6' h' => ih (i + 1) s0' s1' s2' s3' s4' s5' s6' (by omega) h'
theorem forC7_wp {C : Res δ ρ → Prop} {B : α → σ0 → σ1 → σ2 → σ3 → σ4 → σ5 → σ6 → (σ0 → σ1 → σ2 → σ3 → σ4 → σ5 → σ6 → Res δ ρ) → Res δ ρ} {K : σ0 → σ1 → σ2 → σ3 → σ4 → σ5 → σ6 → Res δ ρ} {xs : List α} {s0 : σ0} {s1 : σ1} {s2 : σ2} {s3 : σ3} {s4 : σ4} {s5 : σ5} {s6 : σ6}  (I : Nat → σ0 → σ1 → σ2 → σ3 → σ4 → σ5 → σ6 → Prop) (h0 : I 0 s0 s1 s2 s3 s4 s5 s6) (hs : ∀ i x s0 s1 s2 s3 s4 s5 s6, xs[i]? = some x → I i s0 s1 s2 s3 s4 s5 s6 → ∀ k, (∀ s0' s1' s2' s3' s4' s5' s6', I (i + 1) s0' s1' s2' s3' s4' s5' s6' → C (k s0' s1' s2' s3' s4' s5' s6')) → C (B x s0 s1 s2 s3 s4 s5 s6 k)) (he : ∀ s0 s1 s2 s3 s4 s5 s6, I xs.length s0 s1 s2 s3 s4 s5 s6 → C (K s0 s1 s2 s3 s4 s5 s6)) : C (forC7 B K xs s0 s1 s2 s3 s4 s5 s6) :=
  forC7_ind xs I hs he xs.length 0 s0 s1 s2 s3 s4 s5 s6 (by omega) h0
theorem forC7_run {B : α → σ0 → σ1 → σ2 → σ3 → σ4 → σ5 → σ6 → (σ0 → σ1 → σ2 → σ3 → σ4 → σ5 → σ6 → Res δ ρ) → Res δ ρ} {K : σ0 → σ1 → σ2 → σ3 → σ4 → σ5 → σ6 → Res δ ρ} {xs : List α} {s0 : σ0} {s1 : σ1} {s2 : σ2} {s3 : σ3} {s4 : σ4} {s5 : σ5} {s6 : σ6}  (I : Nat → σ0 → σ1 → σ2 → σ3 → σ4 → σ5 → σ6 → Prop) (h0 : I 0 s0 s1 s2 s3 s4 s5 s6) (hs : ∀ i x s0 s1 s2 s3 s4 s5 s6, xs[i]? = some x → I i s0 s1 s2 s3 s4 s5 s6 → ∃ s0' s1' s2' s3' s4' s5' s6', I (i + 1) s0' s1' s2' s3' s4' s5' s6' ∧ ∀ k, B x s0 s1 s2 s3 s4 s5 s6 k = k s0' s1' s2' s3' s4' s5' s6') : ∃ s0' s1' s2' s3' s4' s5' s6', I xs.length s0' s1' s2' s3' s4' s5' s6' ∧ forC7 B K xs s0 s1 s2 s3 s4 s5 s6 = K s0' s1' s2' s3' s4' s5' s6' :=
  forC7_wp (C := fun r => ∃ s0' s1' s2' s3' s4' s5' s6', I xs.length s0' s1' s2' s3' s4' s5' s6' ∧ r = K s0' s1' s2' s3' s4' s5' s6') I h0 (fun i x s0 s1 s2 s3 s4 s5 s6 hx hI k hk => by obtain ⟨s0', s1', s2', s3', s4', s5', s6', h1, h2⟩ := hs i x s0 s1 s2 s3 s4 s5 s6 hx hI; rw [h2]; exact hk _ _ _ _ _ _ _ h1) fun s0 s1 s2 s3 s4 s5 s6 h => ⟨s0, s1, s2, s3, s4, s5, s6, h, rfl⟩
def whileC7 (St : σ0 → σ1 → σ2 → σ3 → σ4 → σ5 → σ6 → (σ0 → σ1 → σ2 → σ3 → σ4 → σ5 → σ6 → Res δ ρ) → Res δ ρ) : Nat → σ0 → σ1 → σ2 → σ3 → σ4 → σ5 → σ6 → Res δ ρ
  | 0, _s0, _s1, _s2, _s3, _s4, _s5, _s6 => .bad
  | n + 1, s0, s1, s2, s3, s4, s5, s6 => St s0 s1 s2 s3 s4 s5 s6 (whileC7 St n)
theorem whileC7_of {St : σ0 → σ1 → σ2 → σ3 → σ4 → σ5 → σ6 → (σ0 → σ1 → σ2 → σ3 → σ4 → σ5 → σ6 → Res δ ρ) → Res δ ρ} {n : Nat} {s0 : σ0} {s1 : σ1} {s2 : σ2} {s3 : σ3} {s4 : σ4} {s5 : σ5} {s6 : σ6}  {r : Res δ ρ} (hm : whileC7 St n s0 s1 s2 s3 s4 s5 s6 = r) : ∃ St', St' = St ∧ whileC7 St' n s0 s1 s2 s3 s4 s5 s6 = r := ⟨St, rfl, hm⟩
theorem whileC7_at {St St' : σ0 → σ1 → σ2 → σ3 → σ4 → σ5 → σ6 → (σ0 → σ1 → σ2 → σ3 → σ4 → σ5 → σ6 → Res δ ρ) → Res δ ρ} {n : Nat} {s0 : σ0} {s1 : σ1} {s2 : σ2} {s3 : σ3} {s4 : σ4} {s5 : σ5} {s6 : σ6}  {r : Res δ ρ} (eS : St' = St) (hb : r ≠ .bad) (hm : whileC7 St' n s0 s1 s2 s3 s4 s5 s6 = r) : ∃ m, m < n ∧ St s0 s1 s2 s3 s4 s5 s6 (whileC7 St' m) = r := by
  cases n with
  | zero => exact absurd hm.symm hb
  | succ m => exact ⟨m, Nat.lt_succ_self m, by rw [← eS]; exact hm⟩
theorem whileC7_wp {C : Res δ ρ → Prop} {St : σ0 → σ1 → σ2 → σ3 → σ4 → σ5 → σ6 → (σ0 → σ1 → σ2 → σ3 → σ4 → σ5 → σ6 → Res δ ρ) → Res δ ρ} (I : σ0 → σ1 → σ2 → σ3 → σ4 → σ5 → σ6 → Prop) (μ : σ0 → σ1 → σ2 → σ3 → σ4 → σ5 → σ6 → Nat) (hs : ∀ s0 s1 s2 s3 s4 s5 s6, I s0 s1 s2 s3 s4 s5 s6 → ∀ k, (∀ s0' s1' s2' s3' s4' s5' s6', I s0' s1' s2' s3' s4' s5' s6' → μ s0' s1' s2' s3' s4' s5' s6' < μ s0 s1 s2 s3 s4 s5 s6 → C (k s0' s1' s2' s3' s4' s5' s6')) → C (St s0 s1 s2 s3 s4 s5 s6 k)) : ∀ (n : Nat) (s0 : σ0) (s1 : σ1) (s2 : σ2) (s3 : σ3) (s4 : σ4) (s5 : σ5) (s6 : σ6) , I s0 s1 s2 s3 s4 s5 s6 → μ s0 s1 s2 s3 s4 s5 s6 < n → C (whileC7 St n s0 s1 s2 s3 s4 s5 s6) := by
  intro n
  induction n with
  | zero => intro s0 s1 s2 s3 s4 s5 s6 _ h; omega
  | succ n ih => intro s0 s1 s2 s3 s4 s5 s6 hI h; exact hs s0 s1 s2 s3 s4 s5 s6 hI _ fun s0' s1' s2' s3' s4' s5' s6' h1 h2 => ih s0' s1' s2' s3' s4' s5' s6' h1 (by omega)
end
/-! 8 variables -/
section
variable {α δ ρ : Type} {σ0 σ1 σ2 σ3 σ4 σ5 σ6 σ7 : Type} 
def forC8 (B : α → σ0 → σ1 → σ2 → σ3 → σ4 → σ5 → σ6 → σ7 → (σ0 → σ1 → σ2 → σ3 → σ4 → σ5 → σ6 → σ7 → Res δ ρ) → Res δ ρ) (K : σ0 → σ1 → σ2 → σ3 → σ4 → σ5 → σ6 → σ7 → Res δ ρ) : List α → σ0 → σ1 → σ2 → σ3 → σ4 → σ5 → σ6 → σ7 → Res δ ρ
  | [], s0, s1, s2, s3, s4, s5, s6, s7 => K s0 s1 s2 s3 s4 s5 s6 s7
  | x :: t, s0, s1, s2, s3, s4, s5, s6, s7 => B x s0 s1 s2 s3 s4 s5 s6 s7 (forC8 B K t)
theorem forC8_of {B : α → σ0 → σ1 → σ2 → σ3 → σ4 → σ5 → σ6 → σ7 → (σ0 → σ1 → σ2 → σ3 → σ4 → σ5 → σ6 → σ7 → Res δ ρ) → Res δ ρ} {K : σ0 → σ1 → σ2 → σ3 → σ4 → σ5 → σ6 → σ7 → Res δ ρ} {xs : List α} {s0 : σ0} {s1 : σ1} {s2 : σ2} {s3 : σ3} {s4 : σ4} {s5 : σ5} {s6 : σ6} {s7 : σ7}  {r : Res δ ρ} (hm : forC8 B K xs s0 s1 s2 s3 s4 s5 s6 s7 = r) : ∃ B' K', B' = B ∧ K' = K ∧ forC8 B' K' (xs.drop 0) s0 s1 s2 s3 s4 s5 s6 s7 = r := ⟨B, K, rfl, rfl, hm⟩
theorem forC8_at {B B' : α → σ0 → σ1 → σ2 → σ3 → σ4 → σ5 → σ6 → σ7 → (σ0 → σ1 → σ2 → σ3 → σ4 → σ5 → σ6 → σ7 → Res δ ρ) → Res δ ρ} {K : σ0 → σ1 → σ2 → σ3 → σ4 → σ5 → σ6 → σ7 → Res δ ρ} {xs : List α} {i : Nat} {x : α} {s0 : σ0} {s1 : σ1} {s2 : σ2} {s3 : σ3} {s4 : σ4} {s5 : σ5} {s6 : σ6} {s7 : σ7}  {r : Res δ ρ} (eB : B' = B) (hx : xs[i]? = some x) (hm : forC8 B' K (xs.drop i) s0 s1 s2 s3 s4 s5 s6 s7 = r) : B x s0 s1 s2 s3 s4 s5 s6 s7 (forC8 B' K (xs.drop (i + 1))) = r := by
  obtain ⟨hl, he⟩ := List.getElem?_eq_some_iff.mp hx
  rw [List.drop_eq_getElem_cons hl, he] at hm
  have hm2 : B' x s0 s1 s2 s3 s4 s5 s6 s7 (forC8 B' K (xs.drop (i + 1))) = r := hm
  rw [← eB]; exact hm2
theorem forC8_end {B : α → σ0 → σ1 → σ2 → σ3 → σ4 → σ5 → σ6 → σ7 → (σ0 → σ1 → σ2 → σ3 → σ4 → σ5 → σ6 → σ7 → Res δ ρ) → Res δ ρ} {K K' : σ0 → σ1 → σ2 → σ3 → σ4 → σ5 → σ6 → σ7 → Res δ ρ} {xs : List α} {s0 : σ0} {s1 : σ1} {s2 : σ2} {s3 : σ3} {s4 : σ4} {s5 : σ5} {s6 : σ6} {s7 : σ7}  {r : Res δ ρ} (eK : K' = K) (hm : forC8 B K' (xs.drop xs.length) s0 s1 s2 s3 s4 s5 s6 s7 = r) : K s0 s1 s2 s3 s4 s5 s6 s7 = r := by rw [List.drop_length] at hm; rw [← eK]; exact hm
theorem jn8_use {K K' : σ0 → σ1 → σ2 → σ3 → σ4 → σ5 → σ6 → σ7 → Res δ ρ} {s0 : σ0} {s1 : σ1} {s2 : σ2} {s3 : σ3} {s4 : σ4} {s5 : σ5} {s6 : σ6} {s7 : σ7}  {r : Res δ ρ} (eK : K' = K) (hm : K' s0 s1 s2 s3 s4 s5 s6 s7 = r) : K s0 s1 s2 s3 s4 s5 s6 s7 = r := by rw [← eK]; exact hm
theorem forC8_ind {C : Res δ ρ → Prop} {B : α → σ0 → σ1 → σ2 → σ3 → σ4 → σ5 → σ6 → σ7 → (σ0 → σ1 → σ2 → σ3 → σ4 → σ5 → σ6 → σ7 → Res δ ρ) → Res δ ρ} {K : σ0 → σ1 → σ2 → σ3 → σ4 → σ5 → σ6 → σ7 → Res δ ρ} (xs : List α) (I : Nat → σ0 → σ1 → σ2 → σ3 → σ4 → σ5 → σ6 → σ7 → Prop) (hs : ∀ i x s0 s1 s2 s3 s4 s5 s6 s7, xs[i]? = some x → I i s0 s1 s2 s3 s4 s5 s6 s7 → ∀ k, (∀ s0' s1' s2' s3' s4' s5' s6' s7', I (i + 1) s0' s1' s2' s3' s4' s5' s6' s7' → C (k s0' s1' s2' s3' s4' s5' s6' s7')) → C (B x s0 s1 s2 s3 s4 s5 s6 s7 k)) (he : ∀ s0 s1 s2 s3 s4 s5 s6 s7, I xs.length s0 s1 s2 s3 s4 s5 s6 s7 → C (K s0 s1 s2 s3 s4 s5 s6 s7)) : ∀ (j i : Nat) (s0 : σ0) (s1 : σ1) (s2 : σ2) (s3 : σ3) (s4 : σ4) (s5 : σ5) (s6 : σ6) (s7 : σ7) , i + j = xs.length → I i s0 s1 s2 s3 s4 s5 s6 s7 → C (forC8 B K (xs.drop i) s0 s1 s2 s3 s4 s5 s6 s7) := by
  intro j
  induction j with
  | zero => intro i s0 s1 s2 s3 s4 s5 s6 s7 h hI; rw [show i = xs.length by omega] at hI ⊢; rw [List.drop_length]; exact he s0 s1 s2 s3 s4 s5 s6 s7 hI
  | succ j ih => intro i s0 s1 s2 s3 s4 s5 s6 s7 h hI; have hl : i < xs.length := by omega
                 rw [List.drop_eq_getElem_cons hl]; exact hs i _ s0 s1 s2 s3 s4 s5 s6 s7 (List.getElem?_eq_getElem hl) hI _ fun s0' s1' s2' s3' s4' s5' s6' s7' h' => ih (i + 1) s0' s1' s2' s3' s4' s5' s6' s7' (by omega) h'
theorem forC8_wp {C : Res δ ρ → Prop} {B : α → σ0 → σ1 → σ2 → σ3 → σ4 → σ5 → σ6 → σ7 → (σ0 → σ1 → σ2 → σ3 → σ4 → σ5 → σ6 → σ7 → Res δ ρ) → Res δ ρ} {K : σ0 → σ1 → σ2 → σ3 → σ4 → σ5 → σ6 → σ7 → Res δ ρ} {xs : List α} {s0 : σ0} {s1 : σ1} {s2 : σ2} {s3 : σ3} {s4 : σ4} {s5 : σ5} {s6 : σ6} {s7 : σ7}  (I : Nat → σ0 → σ1 → σ2 → σ3 → σ4 → σ5 → σ6 → σ7 → Prop) (h0 : I 0 s0 s1 s2 s3 s4 s5 s6 s7) (hs : ∀ i x s0 s1 s2 s3 s4 s5 s6 s7, xs[i]? = some x → I i s0 s1 s2 s3 s4 s5 s6 s7 → ∀ k, (∀ s0' s1' s2' s3' s4' s5' s6' s7', I (i + 1) s0' s1' s2' s3' s4' s5' s6' s7' → C (k s0' s1' s2' s3' s4' s5' s6' s7')) → C (B x s0 s1 s2 s3 s4 s5 s6 s7 k)) (he : ∀ s0 s1 s2 s3 s4 s5 s6 s7, I xs.length s0 s1 s2 s3 s4 s5 s6 s7 → C (K s0 s1 s2 s3 s4 s5 s6 s7)) : C (forC8 B K xs s0 s1 s2 s3 s4 s5 s6 s7) :=
  forC8_ind xs I hs he xs.length 0 s0 s1 s2 s3 s4 s5 s6 s7 (by omega) h0
theorem forC8_run {B : α → σ0 → σ1 → σ2 → σ3 → σ4 → σ5 → σ6 → σ7 → (σ0 → σ1 → σ2 → σ3 → σ4 → σ5 → σ6 → σ7 → Res δ ρ) → Res δ ρ} {K : σ0 → σ1 → σ2 → σ3 → σ4 → σ5 → σ6 → σ7 → Res δ ρ} {xs : List α} {s0 : σ0} {s1 : σ1} {s2 : σ2} {s3 : σ3} {s4 : σ4} {s5 : σ5} {s6 : σ6} {s7 : σ7}  (I : Nat → σ0 → σ1 → σ2 → σ3 → σ4 → σ5 → σ6 → σ7 → Prop) (h0 : I 0 s0 s1 s2 s3 s4 s5 s6 s7) (hs : ∀ i x s0 s1 s2 s3 s4 s5 s6 s7, xs[i]? = some x → I i s0 s1 s2 s3 s4 s5 s6 s7 → ∃ s0' s1' s2' s3' s4' s5' s6' s7', I (i + 1) s0' s1' s2' s3' s4' s5' s6' s7' ∧ ∀ k, B x s0 s1 s2 s3 s4 s5 s6 s7 k = k s0' s1' s2' s3' s4' s5' s6' s7') : ∃ s0' s1' s2' s3' s4' s5' s6' s7', I xs.length s0' s1' s2' s3' s4' s5' s6' s7' ∧ forC8 B K xs s0 s1 s2 s3 s4 s5 s6 s7 = K s0' s1' s2' s3' s4' s5' s6' s7' :=
  forC8_wp (C := fun r => ∃ s0' s1' s2' s3' s4' s5' s6' s7', I xs.length s0' s1' s2' s3' s4' s5' s6' s7' ∧ r = K s0' s1' s2' s3' s4' s5' s6' s7') I h0 (fun i x s0 s1 s2 s3 s4 s5 s6 s7 hx hI k hk => by obtain ⟨s0', s1', s2', s3', s4', s5', s6', s7', h1, h2⟩ := hs i x s0 s1 s2 s3 s4 s5 s6 s7 hx hI; rw [h2]; exact hk _ _ _ _ _ _ _ _ h1) fun s0 s1 s2 s3 s4 s5 s6 s7 h => ⟨s0, s1, s2, s3, s4, s5, s6, s7, h, rfl⟩
def whileC8 (St : σ0 → σ1 → σ2 → σ3 → σ4 → σ5 → σ6 → σ7 → (σ0 → σ1 → σ2 → σ3 → σ4 → σ5 → σ6 → σ7 → Res δ ρ) → Res δ ρ) : Nat → σ0 → σ1 → σ2 → σ3 → σ4 → σ5 → σ6 → σ7 → Res δ ρ
  | 0, _s0, _s1, _s2, _s3, _s4, _s5, _s6, _s7 => .bad
  | n + 1, s0, s1, s2, s3, s4, s5, s6, s7 => St s0 s1 s2 s3 s4 s5 s6 s7 (whileC8 St n)
theorem whileC8_of {St : σ0 → σ1 → σ2 → σ3 → σ4 → σ5 → σ6 → σ7 → (σ0 → σ1 → σ2 → σ3 → σ4 → σ5 → σ6 → σ7 → Res δ ρ) → Res δ ρ} {n : Nat} {s0 : σ0} {s1 : σ1} {s2 : σ2} {s3 : σ3} {s4 : σ4} {s5 : σ5} {s6 : σ6} {s7 : σ7}  {r : Res δ ρ} (hm : whileC8 St n s0 s1 s2 s3 s4 s5 s6 s7 = r) : ∃ St', St' = St ∧ whileC8 St' n s0 s1 s2 s3 s4 s5 s6 s7 = r := ⟨St, rfl, hm⟩
theorem whileC8_at {St St' : σ0 → σ1 → σ2 → σ3 → σ4 → σ5 → σ6 → σ7 → (σ0 → σ1 → σ2 → σ3 → σ4 → σ5 → σ6 → σ7 → Res δ ρ) → Res δ ρ} {n : Nat} {s0 : σ0} {s1 : σ1} {s2 : σ2} {s3 : σ3} {s4 : σ4} {s5 : σ5} {s6 : σ6} {s7 : σ7}  {r : Res δ ρ} (eS : St' = St) (hb : r ≠ .bad) (hm : whileC8 St' n s0 s1 s2 s3 s4 s5 s6 s7 = r) : ∃ m, m < n ∧ St s0 s1 s2 s3 s4 s5 s6 s7 (whileC8 St' m) = r := by
  cases n with
  | zero => exact absurd hm.symm hb
  | succ m => exact ⟨m, Nat.lt_succ_self m, by rw [← eS]; exact hm⟩
theorem whileC8_wp {C : Res δ ρ → Prop} {St : σ0 → σ1 → σ2 → σ3 → σ4 → σ5 → σ6 → σ7 → (σ0 → σ1 → σ2 → σ3 → σ4 → σ5 → σ6 → σ7 → Res δ ρ) → Res δ ρ} (I : σ0 → σ1 → σ2 → σ3 → σ4 → σ5 → σ6 → σ7 → Prop) (μ : σ0 → σ1 → σ2 → σ3 → σ4 → σ5 → σ6 → σ7 → Nat) (hs : ∀ s0 s1 s2 s3 s4 s5 s6 s7, I s0 s1 s2 s3 s4 s5 s6 s7 → ∀ k, (∀ s0' s1' s2' s3' s4' s5' s6' s7', I s0' s1' s2' s3' s4' s5' s6' s7' → μ s0' s1' s2' s3' s4' s5' s6' s7' < μ s0 s1 s2 s3 s4 s5 s6 s7 → C (k s0' s1' s2' s3' s4' s5' s6' s7')) → C (St s0 s1 s2 s3 s4 s5 s6 s7 k)) : ∀ (n : Nat) (s0 : σ0) (s1 : σ1) (s2 : σ2) (s3 : σ3) (s4 : σ4) (s5 : σ5) (s6 : σ6) (s7 : σ7) , I s0 s1 s2 s3 s4 s5 s6 s7 → μ s0 s1 s2 s3 s4 s5 s6 s7 < n → C (whileC8 St n s0 s1 s2 s3 s4 s5 s6 s7) := by
  intro n
  induction n with
  | zero => intro s0 s1 s2 s3 s4 s5 s6 s7 _ h; omega
  | succ n ih => intro s0 s1 s2 s3 s4 s5 s6 s7 hI h; exact hs s0 s1 s2 s3 s4 s5 s6 s7 hI _ fun s0' s1' s2' s3' s4' s5' s6' s7' h1 h2 => ih s0' s1' s2' s3' s4' s5' s6' s7' h1 (by omega)
end
end Y

/-! ### what is one's own, as it is built: which addresses, and what they hold -/
namespace Y
open PySem PySem.Spec PyProof.Rows L2
/-- addresses, what stands, one's own part, the thing, what it stands for -/
abbrev OR (α : Type) := List Addr → Hp → Hp → V → α → Prop
class OM {α : Type} (o : OR α) : Prop where
  up : ∀ {d : List Addr} {F F' M : Hp} {v : V} {x : α}, Sub F F' → o d F M v x → o d F' M v x
  fr : ∀ {d : List Addr} {F M M' : Hp} {v : V} {x : α}, (∀ a ∈ d, M' a = M a) → o d F M v x → o d F M' v x
  dm : ∀ {d : List Addr} {F M : Hp} {v : V} {x : α}, o d F M v x → ∀ a ∈ d, M a ≠ none
/-- .. and once it stands for good -/
class OZ {α : Type} (o : OR α) (r : outParam (Rep α)) : Prop where
  fz : ∀ {d : List Addr} {F F' M : Hp} {v : V} {x : α}, Sub F F' → (∀ a ∈ d, F' a = M a) → o d F M v x → r F' v x
def oF {α : Type} (r : Rep α) : OR α := fun d F _ v x => d = [] ∧ r F v x
section
variable {α β : Type} {r : Rep α} {o : OR α}
instance [m : Mono r] : OM (oF r) where
  up s h := ⟨h.1, m.sub s h.2⟩
  fr _ h := h
  dm h a ha := by rw [h.1] at ha; cases ha
instance [m : Mono r] : OZ (oF r) r := ⟨fun s _ h => m.sub s h.2⟩
/-- things one behind the other -/
inductive AO (o : OR α) (F M : Hp) : List Addr → List V → List α → Prop
  | nil : AO o F M [] [] []
  | cons {d ds : List Addr} {v : V} {vs : List V} {x : α} {xs : List α} : o d F M v x → AO o F M ds vs xs → AO o F M (d ++ ds) (v :: vs) (x :: xs)
theorem AO.up [m : OM o] {F F' M : Hp} (s : Sub F F') : ∀ {ds : List Addr} {vs : List V} {xs : List α}, AO o F M ds vs xs → AO o F' M ds vs xs
  | _, _, _, .nil => .nil
  | _, _, _, .cons h t => .cons (m.up s h) (t.up s)
theorem AO.fr [m : OM o] {F M M' : Hp} : ∀ {ds : List Addr} {vs : List V} {xs : List α}, (∀ a ∈ ds, M' a = M a) → AO o F M ds vs xs → AO o F M' ds vs xs
  | _, _, _, _, .nil => .nil
  | _, _, _, e, .cons h t => .cons (m.fr (fun a ha => e a (List.mem_append_left _ ha)) h) (t.fr fun a ha => e a (List.mem_append_right _ ha))
theorem AO.dm [m : OM o] {F M : Hp} : ∀ {ds : List Addr} {vs : List V} {xs : List α}, AO o F M ds vs xs → ∀ a ∈ ds, M a ≠ none
  | _, _, _, .nil, a, ha => by cases ha
  | _, _, _, .cons h t, a, ha => (List.mem_append.mp ha).elim (m.dm h a) (t.dm a)
theorem AO.fz {r : Rep α} [m : OZ o r] {F F' M : Hp} (s : Sub F F') : ∀ {ds : List Addr} {vs : List V} {xs : List α}, (∀ a ∈ ds, F' a = M a) → AO o F M ds vs xs → A2 (r F') vs xs
  | _, _, _, _, .nil => .nil
  | _, _, _, e, .cons h t => .cons (m.fz s (fun a ha => e a (List.mem_append_left _ ha)) h) (t.fz s fun a ha => e a (List.mem_append_right _ ha))
theorem AO.len {F M : Hp} : ∀ {ds : List Addr} {vs : List V} {xs : List α}, AO o F M ds vs xs → vs.length = xs.length
  | _, _, _, .nil => rfl
  | _, _, _, .cons _ t => by simp [t.len]
theorem AO.push {F M : Hp} : ∀ {ds d : List Addr} {vs : List V} {xs : List α} {v : V} {x : α}, AO o F M ds vs xs → o d F M v x → AO o F M (ds ++ d) (vs ++ [v]) (xs ++ [x])
  | _, d, _, _, _, _, .nil, h => by have := AO.cons h AO.nil; simpa using this
  | _, _, _, _, _, _, .cons h t, q => by rw [List.append_assoc]; exact .cons h (t.push q)
theorem AO.of_A2 {F M : Hp} : ∀ {vs : List V} {xs : List α}, A2 (r F) vs xs → AO (oF r) F M [] vs xs
  | _, _, .nil => .nil
  | _, _, .cons h t => AO.cons (d := []) ⟨rfl, h⟩ (AO.of_A2 t)
theorem AO.to_A2 {F M : Hp} : ∀ {ds : List Addr} {vs : List V} {xs : List α}, AO (oF r) F M ds vs xs → ds = [] ∧ A2 (r F) vs xs
  | _, _, _, .nil => ⟨rfl, .nil⟩
  | _, _, _, .cons h t => by
    obtain ⟨e, h2⟩ := t.to_A2
    rw [h.1, e]
    exact ⟨rfl, .cons h.2 h2⟩
theorem AO.at {F M : Hp} : ∀ {ds : List Addr} {vs : List V} {xs : List α} {j : Nat} {x : α}, AO o F M ds vs xs → xs[j]? = some x →
    ∃ u d1 dj d2, ds = d1 ++ dj ++ d2 ∧ vs[j]? = some u ∧ o dj F M u x ∧ ∀ F' M' dj' x', (∀ {d v y}, o d F M v y → (∀ a ∈ d, a ∈ d1 ∨ a ∈ d2) → o d F' M' v y) → o dj' F' M' u x' → AO o F' M' (d1 ++ dj' ++ d2) vs (xs.set j x')
  | _, _, _, _, _, .nil, e => by simp at e
  | _, _, _, 0, _, @AO.cons _ _ _ _ d ds v vs x xs h t, e => by
    simp at e; subst e
    refine ⟨v, [], d, ds, by simp, rfl, h, fun F' M' dj' x' k h' => ?_⟩
    have ht : AO o F' M' ds vs xs := by
      clear h h'
      induction t with
      | nil => exact .nil
      | cons h t ih =>
        exact .cons (k h fun a ha => .inr (List.mem_append_left _ ha)) (ih fun {d v y} q z => k q fun a ha => (z a ha).elim (fun w => absurd w (by simp)) fun w => .inr (List.mem_append_right _ w))
    simpa using AO.cons h' ht
  | _, _, _, j + 1, _, @AO.cons _ _ _ _ d ds v vs x xs h t, e => by
    obtain ⟨u, d1, dj, d2, e1, e2, e3, k⟩ := t.at (j := j) (by simpa using e)
    refine ⟨u, d ++ d1, dj, d2, by rw [e1]; simp, by simpa using e2, e3, fun F' M' dj' x' kk h' => ?_⟩
    have := k F' M' dj' x' (fun {d v y} q z => kk q fun a ha => (z a ha).imp (List.mem_append_right _) id) h'
    have q := AO.cons (kk h fun a ha => .inl (List.mem_append_left _ ha)) this
    simpa using q
/-- a list of one's own -/
def oL (o : OR α) : OR (List α) := fun d F M v xs => ∃ l vs ds, d = l :: ds ∧ v = .ref l ∧ M l = some (.lst vs) ∧ AO o F M ds vs xs
instance [m : OM o] : OM (oL o) where
  up s h := let ⟨l, vs, ds, e1, e2, e3, e4⟩ := h; ⟨l, vs, ds, e1, e2, e3, e4.up s⟩
  fr e h := by
    obtain ⟨l, vs, ds, rfl, e2, e3, e4⟩ := h
    exact ⟨l, vs, ds, rfl, e2, (e l (by simp)).trans e3, e4.fr fun a ha => e a (List.mem_cons_of_mem _ ha)⟩
  dm h a ha := by
    obtain ⟨l, vs, ds, rfl, e2, e3, e4⟩ := h
    rcases List.mem_cons.mp ha with rfl | ha
    · rw [e3]; exact fun z => nomatch z
    · exact e4.dm a ha
instance {r : Rep α} [m : OZ o r] : OZ (oL o) (lR r) := ⟨fun s e h => by
  obtain ⟨l, vs, ds, rfl, e2, e3, e4⟩ := h
  exact ⟨l, vs, e2, (e l (by simp)).trans e3, e4.fz s fun a ha => e a (List.mem_cons_of_mem _ ha)⟩⟩
theorem oL.mk {F M : Hp} {l : Addr} {vs : List V} {xs : List α} (h : M l = some (.lst vs)) (q : A2 (r F) vs xs) : oL (oF r) [l] F M (.ref l) xs := ⟨l, vs, [], rfl, rfl, h, AO.of_A2 q⟩
theorem oL.at {d : List Addr} {F M : Hp} {v : V} {xs : List α} (h : oL (oF r) d F M v xs) : ∃ l vs, d = [l] ∧ v = .ref l ∧ M l = some (.lst vs) ∧ A2 (r F) vs xs := by
  obtain ⟨l, vs, ds, e1, e2, e3, e4⟩ := h
  obtain ⟨e5, e6⟩ := e4.to_A2
  exact ⟨l, vs, by rw [e1, e5], e2, e3, e6⟩
end
section
variable {κ α β : Type} [DecidableEq κ] [t : KeyT κ] {r : Rep α} {o : OR α}
/-- a dict of one's own, its keys texts or numbers -/
def oD (κ : Type) [KeyT κ] (o : OR α) : OR (List (κ × α)) := fun d F M v kvs => ∃ l ks ds, d = l :: ds ∧ v = .ref l ∧ M l = some (.dK ks) ∧
  A2 (fun (p : Key × V) (q : κ × α) => p.1 = KeyT.k q.1 ∧ KeyT.rk (kV p.1) q.1) ks kvs ∧ (kvs.map (·.1)).Nodup ∧ AO o F M ds (ks.map (·.2)) (kvs.map (·.2))
omit [DecidableEq κ] in
theorem A2.dk {F : Hp} : ∀ {ks : List (Key × V)} {kvs : List (κ × α)}, A2 (fun p q => p.1 = KeyT.k q.1 ∧ r F p.2 q.2 ∧ KeyT.rk (kV p.1) q.1) ks kvs ↔ A2 (fun (p : Key × V) (q : κ × α) => p.1 = KeyT.k q.1 ∧ KeyT.rk (kV p.1) q.1) ks kvs ∧ A2 (r F) (ks.map (·.2)) (kvs.map (·.2)) := by
  intro ks kvs
  constructor
  · intro h; induction h with
    | nil => exact ⟨.nil, .nil⟩
    | cons h t ih => exact ⟨.cons ⟨h.1, h.2.2⟩ ih.1, .cons h.2.1 ih.2⟩
  · rintro ⟨h, q⟩
    induction h with
    | nil => exact .nil
    | cons h t ih => cases q with
      | cons q1 q2 => exact .cons ⟨h.1, q1, h.2⟩ (ih q2)
instance [m : OM o] : OM (oD κ o) where
  up s h := let ⟨l, ks, ds, e1, e2, e3, e4, e5, e6⟩ := h; ⟨l, ks, ds, e1, e2, e3, e4, e5, e6.up s⟩
  fr e h := by
    obtain ⟨l, ks, ds, rfl, e2, e3, e4, e5, e6⟩ := h
    exact ⟨l, ks, ds, rfl, e2, (e l (by simp)).trans e3, e4, e5, e6.fr fun a ha => e a (List.mem_cons_of_mem _ ha)⟩
  dm h a ha := by
    obtain ⟨l, ks, ds, rfl, e2, e3, e4, e5, e6⟩ := h
    rcases List.mem_cons.mp ha with rfl | ha
    · rw [e3]; exact fun z => nomatch z
    · exact e6.dm a ha
instance {r : Rep α} [m : OZ o r] : OZ (oD κ o) (dR (κ := κ) r) := ⟨fun s e h => by
  obtain ⟨l, ks, ds, rfl, e2, e3, e4, e5, e6⟩ := h
  exact ⟨l, .dK ks, ks, e2, (e l (by simp)).trans e3, .k _, A2.dk.mpr ⟨e4, e6.fz s fun a ha => e a (List.mem_cons_of_mem _ ha)⟩, e5⟩⟩
theorem oD.mk {F M : Hp} {l : Addr} {ks : List (Key × V)} {kvs : List (κ × α)} (h : M l = some (.dK ks)) (q : DK r F ks kvs) : oD κ (oF r) [l] F M (.ref l) kvs :=
  ⟨l, ks, [], rfl, rfl, h, (A2.dk.mp q.1).1, q.2, AO.of_A2 (A2.dk.mp q.1).2⟩
theorem oD.at {d : List Addr} {F M : Hp} {v : V} {kvs : List (κ × α)} (h : oD κ (oF r) d F M v kvs) : ∃ l ks, d = [l] ∧ v = .ref l ∧ M l = some (.dK ks) ∧ DK r F ks kvs := by
  obtain ⟨l, ks, ds, e1, e2, e3, e4, e5, e6⟩ := h
  obtain ⟨e7, e8⟩ := e6.to_A2
  exact ⟨l, ks, by rw [e1, e7], e2, e3, A2.dk.mpr ⟨e4, e8⟩, e5⟩
/-- .. its keys tuples of numbers -/
def oDT (rk : Rep κ) [TupB rk] (r : Rep α) : OR (List (κ × α)) := fun d F M v kvs => ∃ l ks, d = [l] ∧ v = .ref l ∧ M l = some (.dT ks) ∧ DT rk r F ks kvs
end
instance {κ α : Type} [DecidableEq κ] {rk : Rep κ} [TupB rk] {r : Rep α} [m : Mono r] : OM (oDT rk r) where
  up s h := let ⟨l, ks, e1, e2, e3, e4⟩ := h; ⟨l, ks, e1, e2, e3, e4.sub s⟩
  fr e h := by
    obtain ⟨l, ks, rfl, e2, e3, e4⟩ := h
    exact ⟨l, ks, rfl, e2, (e l (by simp)).trans e3, e4⟩
  dm h a ha := by
    obtain ⟨l, ks, rfl, e2, e3, e4⟩ := h
    rcases List.mem_cons.mp ha with rfl | ha
    · rw [e3]; exact fun z => nomatch z
    · cases ha
instance {κ α : Type} [DecidableEq κ] {rk : Rep κ} [TupB rk] {r : Rep α} [m : Mono r] : OZ (oDT rk r) (dtR rk r) := ⟨fun s e h => by
  obtain ⟨l, ks, rfl, e2, e3, e4⟩ := h
  exact ⟨l, .dT ks, ks, e2, (e l (by simp)).trans e3, .t _, e4.sub s⟩⟩
/-! several things, each of its kind -/
abbrev OS (β : Type) := List Addr → Hp → Hp → List V → β → Prop
class OMS {β : Type} (s : OS β) : Prop where
  up : ∀ {d : List Addr} {F F' M : Hp} {vs : List V} {x : β}, Sub F F' → s d F M vs x → s d F' M vs x
  fr : ∀ {d : List Addr} {F M M' : Hp} {vs : List V} {x : β}, (∀ a ∈ d, M' a = M a) → s d F M vs x → s d F M' vs x
  dm : ∀ {d : List Addr} {F M : Hp} {vs : List V} {x : β}, s d F M vs x → ∀ a ∈ d, M a ≠ none
def oN : OS Unit := fun d _ _ vs _ => d = [] ∧ vs = []
def oC {α β : Type} (o : OR α) (s : OS β) : OS (α × β) := fun d F M vs x => ∃ v us d1 d2, vs = v :: us ∧ d = d1 ++ d2 ∧ o d1 F M v x.1 ∧ s d2 F M us x.2
instance : OMS oN where
  up _ h := h
  fr _ h := h
  dm h a ha := by rw [h.1] at ha; cases ha
instance {α β : Type} {o : OR α} {s : OS β} [m : OM o] [n : OMS s] : OMS (oC o s) where
  up e h := let ⟨v, us, d1, d2, e1, e2, h1, h2⟩ := h; ⟨v, us, d1, d2, e1, e2, m.up e h1, n.up e h2⟩
  fr e h := by
    obtain ⟨v, us, d1, d2, e1, rfl, h1, h2⟩ := h
    exact ⟨v, us, d1, d2, e1, rfl, m.fr (fun a ha => e a (List.mem_append_left _ ha)) h1, n.fr (fun a ha => e a (List.mem_append_right _ ha)) h2⟩
  dm h a ha := by
    obtain ⟨v, us, d1, d2, e1, rfl, h1, h2⟩ := h
    exact (List.mem_append.mp ha).elim (m.dm h1 a) (n.dm h2 a)
theorem oC.mk {α β : Type} {o : OR α} {s : OS β} {d1 d2 : List Addr} {F M : Hp} {v : V} {us : List V} {x : α} {y : β} (h1 : o d1 F M v x) (h2 : s d2 F M us y) : oC o s (d1 ++ d2) F M (v :: us) (x, y) := ⟨v, us, d1, d2, rfl, rfl, h1, h2⟩
theorem oC.at {α β : Type} {o : OR α} {s : OS β} {d : List Addr} {F M : Hp} {v : V} {us : List V} {x : α × β} (h : oC o s d F M (v :: us) x) : ∃ d1 d2, d = d1 ++ d2 ∧ o d1 F M v x.1 ∧ s d2 F M us x.2 := by
  obtain ⟨v', us', d1, d2, e1, e2, h1, h2⟩ := h
  cases e1
  exact ⟨d1, d2, e2, h1, h2⟩
/-- a tuple of two things, one's own within -/
def oT2 {α β : Type} (o : OR α) (s : OR β) : OR (α × β) := fun d F M v x => ∃ a u w d1 d2, v = .ref a ∧ F a = some (.tup [u, w]) ∧ d = d1 ++ d2 ∧ o d1 F M u x.1 ∧ s d2 F M w x.2
instance {α β : Type} {o : OR α} {s : OR β} [m : OM o] [n : OM s] : OM (oT2 o s) where
  up e h := let ⟨a, u, w, d1, d2, e1, e2, e3, h1, h2⟩ := h; ⟨a, u, w, d1, d2, e1, e.tup e2, e3, m.up e h1, n.up e h2⟩
  fr e h := by
    obtain ⟨a, u, w, d1, d2, e1, e2, rfl, h1, h2⟩ := h
    exact ⟨a, u, w, d1, d2, e1, e2, rfl, m.fr (fun a ha => e a (List.mem_append_left _ ha)) h1, n.fr (fun a ha => e a (List.mem_append_right _ ha)) h2⟩
  dm h a ha := by
    obtain ⟨b, u, w, d1, d2, e1, e2, rfl, h1, h2⟩ := h
    exact (List.mem_append.mp ha).elim (m.dm h1 a) (n.dm h2 a)
instance {α β : Type} {o : OR α} {s : OR β} {r : Rep α} {q : Rep β} [m : OZ o r] [n : OZ s q] : OZ (oT2 o s) (t2R r q) := ⟨fun s e h => by
  obtain ⟨a, u, w, d1, d2, e1, e2, rfl, h1, h2⟩ := h
  exact ⟨a, u, w, e1, s.tup e2, m.fz s (fun a ha => e a (List.mem_append_left _ ha)) h1, n.fz s (fun a ha => e a (List.mem_append_right _ ha)) h2⟩⟩
/-- a list of two things -/
def oH2 {α β : Type} (o : OR α) (s : OR β) : OR (α × β) := fun d F M v x => ∃ l u w d1 d2, v = .ref l ∧ M l = some (.lst [u, w]) ∧ d = l :: (d1 ++ d2) ∧ o d1 F M u x.1 ∧ s d2 F M w x.2
instance {α β : Type} {o : OR α} {s : OR β} [m : OM o] [n : OM s] : OM (oH2 o s) where
  up e h := let ⟨a, u, w, d1, d2, e1, e2, e3, h1, h2⟩ := h; ⟨a, u, w, d1, d2, e1, e2, e3, m.up e h1, n.up e h2⟩
  fr e h := by
    obtain ⟨a, u, w, d1, d2, e1, e2, rfl, h1, h2⟩ := h
    exact ⟨a, u, w, d1, d2, e1, (e a (by simp)).trans e2, rfl, m.fr (fun a ha => e a (by simp [ha])) h1, n.fr (fun a ha => e a (by simp [ha])) h2⟩
  dm h a ha := by
    obtain ⟨b, u, w, d1, d2, e1, e2, rfl, h1, h2⟩ := h
    rcases List.mem_cons.mp ha with rfl | ha
    · rw [e2]; exact fun z => nomatch z
    · exact (List.mem_append.mp ha).elim (m.dm h1 a) (n.dm h2 a)
instance {α β : Type} {o : OR α} {s : OR β} {r : Rep α} {q : Rep β} [m : OZ o r] [n : OZ s q] : OZ (oH2 o s) (h2R r q) := ⟨fun s e h => by
  obtain ⟨a, u, w, d1, d2, e1, e2, rfl, h1, h2⟩ := h
  exact ⟨a, u, w, e1, (e a (by simp)).trans e2, m.fz s (fun a ha => e a (by simp [ha])) h1, n.fz s (fun a ha => e a (by simp [ha])) h2⟩⟩
/-! ### a program's state: what stands, what is one's own -/
/-- M0, d0: the caller's own part, and what of it may change -/
structure SH [Lams] (M0 : Hp) (d0 : List Addr) {β : Type} (s : OS β) (d : List Addr) (F M H : Hp) (vs : List V) (x : β) : Prop where
  w : Own F M H
  g : s d F M vs x
  nd : d.Nodup
  n0 : ∀ a ∈ d, a ∈ d0 ∨ M0 a = none
  sM : ∀ a, a ∉ d0 → M0 a ≠ none → M a = M0 a
/-- adding and taking away -/
def addF (F M : Hp) (d : List Addr) : Hp := fun a => if a ∈ d then M a else F a
def delD (M : Hp) (d : List Addr) : Hp := fun a => if a ∈ d then none else M a
theorem addF_in {F M : Hp} {d : List Addr} {a : Addr} (h : a ∈ d) : addF F M d a = M a := if_pos h
theorem addF_out {F M : Hp} {d : List Addr} {a : Addr} (h : a ∉ d) : addF F M d a = F a := if_neg h
theorem delD_in {M : Hp} {d : List Addr} {a : Addr} (h : a ∈ d) : delD M d a = none := if_pos h
theorem delD_out {M : Hp} {d : List Addr} {a : Addr} (h : a ∉ d) : delD M d a = M a := if_neg h
/-- two parts that lie apart -/
def jnH (M R : Hp) : Hp := fun a => match R a with | some o => some o | none => M a
section
variable [Lams] {F F1 F2 M M0 M1 M2 R H H2 : Hp} {d d0 d1 d2 : List Addr} {α β γ : Type} {o : OR α} {s : OS β} {vs us : List V} {v u : V} {x : α} {y : β}
theorem Own.sameAdd (w : Own F M H) (h : ∀ a ∈ d, M a ≠ none) : Same F (addF F M d) := fun a o e => by
  by_cases q : a ∈ d
  · obtain ⟨z, hz⟩ := Option.ne_none_iff_exists'.mp (h a q)
    rw [w.d a z hz] at e; cases e
  · rw [addF_out q]; exact e
theorem Own.fzD (w : Own F M H) : Own (addF F M d) (delD M d) H :=
  ⟨fun a o e => by
    by_cases q : a ∈ d
    · rw [addF_in q] at e; exact w.m a o e
    · rw [addF_out q] at e; exact w.f a o e,
   fun a o e => by
    by_cases q : a ∈ d
    · rw [delD_in q] at e; cases e
    · rw [delD_out q] at e; exact w.m a o e,
   fun a o e => by
    by_cases q : a ∈ d
    · rw [delD_in q] at e; cases e
    · rw [delD_out q] at e; rw [addF_out q]; exact w.d a o e,
   fun a o e => by
    by_cases q : a ∈ d
    · rw [delD_in q] at e; cases e
    · rw [delD_out q] at e; exact w.t a o e, w.b,
   fun a o e => by
    by_cases q : a ∈ d
    · rw [addF_in q] at e; exact ntb_of (w.t a o e)
    · rw [addF_out q] at e; exact w.u a o e⟩
theorem SH.up [n : OMS s] (h : SH M0 d0 s d F M H vs y) (e : Same F F2) (w : Own F2 M H2) : SH M0 d0 s d F2 M H2 vs y := ⟨w, n.up (Same.sub e) h.g, h.nd, h.n0, h.sM⟩
theorem SH.h [n : OMS s] (h : SH M0 d0 s d F M H vs y) (w : Own F M H2) : SH M0 d0 s d F M H2 vs y := ⟨w, h.g, h.nd, h.n0, h.sM⟩
/-- the first thing stands for good from here on -/
theorem SH.fz {r : Rep α} [z : OZ o r] [m : OM o] [n : OMS s] (h : SH M0 d0 (oC o s) d F M H (v :: vs) (x, y)) : ∃ F2 M2 d2, Same F F2 ∧ SH M0 d0 s d2 F2 M2 H vs y ∧ r F2 v x := by
  obtain ⟨w, g, nd, n0, sM⟩ := h
  obtain ⟨d1, d2, rfl, h1, h2⟩ := oC.at g
  have dm := m.dm h1
  have sF := w.sameAdd dm
  refine ⟨addF F M d1, delD M d1, d2, sF, ⟨w.fzD, ?_, ?_, fun a ha => n0 a (List.mem_append_right _ ha), fun a h1' h2' => ?_⟩, z.fz (Same.sub sF) (fun a ha => addF_in ha) h1⟩
  · exact n.fr (fun a ha => delD_out fun q => (List.nodup_append.mp nd).2.2 a q a ha rfl) (n.up (Same.sub sF) h2)
  · exact (List.nodup_append.mp nd).2.1
  · rw [delD_out fun q => (n0 a (List.mem_append_left _ q)).elim h1' fun z => h2' z]
    exact sM a h1' h2'
/-- .. is asked for no more -/
theorem SH.drop (h : SH M0 d0 (oC o s) d F M H (v :: vs) (x, y)) : ∃ d2, SH M0 d0 s d2 F M H vs y := by
  obtain ⟨w, g, nd, n0, sM⟩ := h
  obtain ⟨d1, d2, rfl, h1, h2⟩ := oC.at g
  exact ⟨d2, w, h2, (List.nodup_append.mp nd).2.1, fun a ha => n0 a (List.mem_append_right _ ha), sM⟩
/-! the order of things -/
def PermS {γ δ : Type} (s : OS γ) (vs : List V) (x : γ) (s' : OS δ) (vs' : List V) (x' : δ) : Prop := ∀ d F M, s d F M vs x → ∃ d', d'.Perm d ∧ s' d' F M vs' x'
omit [Lams] in
theorem PermS.refl {γ : Type} {s : OS γ} {z : γ} : PermS s vs z s vs z := fun d _ _ h => ⟨d, .refl _, h⟩
omit [Lams] in
theorem PermS.trans {γ δ ε : Type} {s : OS γ} {s' : OS δ} {s'' : OS ε} {vs vs' vs'' : List V} {x : γ} {x' : δ} {x'' : ε} (a : PermS s vs x s' vs' x') (b : PermS s' vs' x' s'' vs'' x'') : PermS s vs x s'' vs'' x'' := fun d F M h => by
  obtain ⟨d1, p1, h1⟩ := a d F M h
  obtain ⟨d2, p2, h2⟩ := b d1 F M h1
  exact ⟨d2, p2.trans p1, h2⟩
omit [Lams] in
theorem PermS.under {γ δ : Type} {s : OS γ} {s' : OS δ} {vs vs' : List V} {z : γ} {z' : δ} (a : PermS s vs z s' vs' z') : PermS (oC o s) (v :: vs) (x, z) (oC o s') (v :: vs') (x, z') := fun d F M h => by
  obtain ⟨d1, d2, rfl, h1, h2⟩ := oC.at h
  obtain ⟨d3, p, h3⟩ := a d2 F M h2
  exact ⟨d1 ++ d3, p.append_left d1, oC.mk h1 h3⟩
omit [Lams] in
theorem PermS.sw {γ : Type} {o2 : OR β} {s : OS γ} {vs : List V} {v w : V} {x : α} {y : β} {z : γ} : PermS (oC o (oC o2 s)) (v :: w :: vs) (x, y, z) (oC o2 (oC o s)) (w :: v :: vs) (y, x, z) := fun d F M h => by
  obtain ⟨d1, d2, rfl, h1, h2⟩ := oC.at h
  obtain ⟨d3, d4, rfl, h3, h4⟩ := oC.at h2
  refine ⟨d3 ++ (d1 ++ d4), ?_, oC.mk h3 (oC.mk h1 h4)⟩
  rw [← List.append_assoc, ← List.append_assoc]
  exact List.perm_append_comm.append_right d4
theorem SH.perm {γ δ : Type} {s : OS γ} {s' : OS δ} {vs vs' : List V} {x : γ} {x' : δ} (h : SH M0 d0 s d F M H vs x) (p : PermS s vs x s' vs' x') : ∃ d', SH M0 d0 s' d' F M H vs' x' := by
  obtain ⟨d', q, g⟩ := p d F M h.g
  exact ⟨d', h.w, g, q.nodup_iff.mpr h.nd, fun a ha => h.n0 a (q.mem_iff.mp ha), h.sM⟩
/-! reading -/
def Gm {γ : Type} (s : OS γ) (F M : Hp) (vs : List V) (x : γ) : Prop := ∃ d, s d F M vs x
def Om {γ : Type} (o : OR γ) (F M : Hp) (v : V) (x : γ) : Prop := ∃ d, o d F M v x
theorem SH.gm (h : SH M0 d0 s d F M H vs y) : Gm s F M vs y := ⟨d, h.g⟩
omit [Lams] in
theorem Gm.hd (h : Gm (oC o s) F M (v :: vs) (x, y)) : Om o F M v x := let ⟨_, h⟩ := h; let ⟨d1, _, _, h1, _⟩ := oC.at h; ⟨d1, h1⟩
omit [Lams] in
theorem Gm.tl (h : Gm (oC o s) F M (v :: vs) (x, y)) : Gm s F M vs y := let ⟨_, h⟩ := h; let ⟨_, d2, _, _, h2⟩ := oC.at h; ⟨d2, h2⟩
omit [Lams] in
theorem Om.up [m : OM o] (h : Om o F M v x) (e : Sub F F1) (e2 : Same M M1) : Om o F1 M1 v x := by
  obtain ⟨d, h⟩ := h
  refine ⟨d, m.fr (fun a ha => ?_) (m.up e h)⟩
  obtain ⟨z, hz⟩ := Option.ne_none_iff_exists'.mp (m.dm h a ha)
  rw [hz]; exact e2 _ _ hz
omit [Lams] in
theorem Gm.up [m : OMS s] (h : Gm s F M vs y) (e : Sub F F1) (e2 : Same M M1) : Gm s F1 M1 vs y := by
  obtain ⟨d, h⟩ := h
  refine ⟨d, m.fr (fun a ha => ?_) (m.up e h)⟩
  obtain ⟨z, hz⟩ := Option.ne_none_iff_exists'.mp (m.dm h a ha)
  rw [hz]; exact e2 _ _ hz
/-! one thing within -/
def Foc {γ : Type} (s : OS γ) (d : List Addr) (F M : Hp) (vs : List V) {α : Type} (o : OR α) (v : V) (x : α) (put : α → γ) : Prop :=
  ∃ di rs, d.Perm (di ++ rs) ∧ o di F M v x ∧ ∀ F' M' di' x', Same F F' → (∀ a ∈ rs, M' a = M a) → o di' F' M' v x' → ∃ d', d'.Perm (di' ++ rs) ∧ s d' F' M' vs (put x')
omit [Lams] in
theorem foc_hd [n : OMS s] (h : oC o s d F M (v :: vs) (x, y)) : Foc (oC o s) d F M (v :: vs) o v x (fun x' => (x', y)) := by
  obtain ⟨d1, d2, rfl, h1, h2⟩ := oC.at h
  exact ⟨d1, d2, .refl _, h1, fun F' M' di' x' e k q => ⟨di' ++ d2, .refl _, oC.mk q (n.fr k (n.up (Same.sub e) h2))⟩⟩
omit [Lams] in
theorem foc_tl {γ δ : Type} {s : OS γ} {z : γ} {o2 : OR δ} {w : V} {q : δ} {put : δ → γ} [m : OM o] (h : oC o s d F M (v :: vs) (x, z)) (k : ∀ d2, s d2 F M vs z → Foc s d2 F M vs o2 w q put) : Foc (oC o s) d F M (v :: vs) o2 w q (fun q' => (x, put q')) := by
  obtain ⟨d1, d2, rfl, h1, h2⟩ := oC.at h
  obtain ⟨di, rs, p, h3, kk⟩ := k d2 h2
  refine ⟨di, rs ++ d1, ?_, h3, fun F' M' di' x' e e2 q => ?_⟩
  · refine (List.perm_append_comm.trans (p.append_right d1)).trans ?_
    rw [List.append_assoc]
  · obtain ⟨d', p', h4⟩ := kk F' M' di' x' e (fun a ha => e2 a (List.mem_append_left _ ha)) q
    refine ⟨d1 ++ d', ?_, oC.mk (m.fr (fun a ha => e2 a (List.mem_append_right _ ha)) (m.up (Same.sub e) h1)) h4⟩
    refine (List.perm_append_comm.trans (p'.append_right d1)).trans ?_
    rw [List.append_assoc]
section
variable {γ : Type} {sg : OS γ}
omit [Lams] in
/-- the thing at a place of a list -/
theorem foc_ix [m : OM o] {xs : List α} {put : List α → γ} (f : Foc sg d F M vs (oL o) v xs put) {j : Nat} {x : α} (hx : xs[j]? = some x) :
    ∃ l ws u, v = .ref l ∧ M l = some (.lst ws) ∧ ws.length = xs.length ∧ ws[j]? = some u ∧ Foc sg d F M vs o u x (fun x' => put (xs.set j x')) := by
  obtain ⟨di, rs, p, ⟨l, ws, ds, rfl, e2, e3, e4⟩, k⟩ := f
  obtain ⟨u, d1, dj, d2, rfl, e6, e7, kk⟩ := e4.at hx
  refine ⟨l, ws, u, e2, e3, e4.len, e6, dj, l :: (d1 ++ d2) ++ rs, ?_, e7, fun F' M' dj' x' e e8 q => ?_⟩
  · refine p.trans ?_
    have : (l :: (d1 ++ dj ++ d2)).Perm (dj ++ (l :: (d1 ++ d2))) := by
      refine (List.Perm.cons l ?_).trans List.perm_middle.symm
      rw [← List.append_assoc]
      exact List.perm_append_comm.append_right d2
    rw [← List.append_assoc]; exact this.append_right rs
  · have e9 : ∀ a, a = l ∨ a ∈ d1 ∨ a ∈ d2 ∨ a ∈ rs → M' a = M a := fun a ha => e8 a (by rcases ha with rfl | h | h | h <;> simp [*])
    obtain ⟨d', p', h'⟩ := k F' M' (l :: (d1 ++ dj' ++ d2)) (xs.set j x') e (fun a ha => e9 a (by simp [ha])) ⟨l, ws, _, rfl, e2, (e9 l (.inl rfl)).trans e3, kk F' M' dj' x' (fun {d v y} q hq => m.fr (fun a ha => e9 a (by rcases hq a ha with h | h <;> simp [h])) (m.up (Same.sub e) q)) q⟩
    refine ⟨d', p'.trans ?_, h'⟩
    have : (l :: (d1 ++ dj' ++ d2)).Perm (dj' ++ (l :: (d1 ++ d2))) := by
      refine (List.Perm.cons l ?_).trans List.perm_middle.symm
      rw [← List.append_assoc]
      exact List.perm_append_comm.append_right d2
    rw [← List.append_assoc]; exact this.append_right rs
omit [Lams] in
theorem foc_t2_0 {o2 : OR β} [n : OM o2] {x : α × β} {put : α × β → γ} (f : Foc sg d F M vs (oT2 o o2) v x put) : ∃ a u w, v = .ref a ∧ F a = some (.tup [u, w]) ∧ Foc sg d F M vs o u x.1 (fun x' => put (x', x.2)) := by
  obtain ⟨di, rs, p, ⟨a, u, w, d1, d2, e1, e2, rfl, h1, h2⟩, k⟩ := f
  refine ⟨a, u, w, e1, e2, d1, d2 ++ rs, by rw [← List.append_assoc]; exact p, h1, fun F' M' di' x' e e3 q => ?_⟩
  obtain ⟨d', p', h'⟩ := k F' M' (di' ++ d2) (x', x.2) e (fun a ha => e3 a (List.mem_append_right _ ha)) ⟨a, u, w, di', d2, e1, e _ _ e2, rfl, q, n.fr (fun a ha => e3 a (List.mem_append_left _ ha)) (n.up (Same.sub e) h2)⟩
  exact ⟨d', by rw [← List.append_assoc]; exact p', h'⟩
omit [Lams] in
theorem foc_t2_1 {o2 : OR β} [m : OM o] {x : α × β} {put : α × β → γ} (f : Foc sg d F M vs (oT2 o o2) v x put) : ∃ a u w, v = .ref a ∧ F a = some (.tup [u, w]) ∧ Foc sg d F M vs o2 w x.2 (fun x' => put (x.1, x')) := by
  obtain ⟨di, rs, p, ⟨a, u, w, d1, d2, e1, e2, rfl, h1, h2⟩, k⟩ := f
  refine ⟨a, u, w, e1, e2, d2, d1 ++ rs, by rw [← List.append_assoc]; exact p.trans (List.perm_append_comm.append_right rs), h2, fun F' M' di' x' e e3 q => ?_⟩
  obtain ⟨d', p', h'⟩ := k F' M' (d1 ++ di') (x.1, x') e (fun a ha => e3 a (List.mem_append_right _ ha)) ⟨a, u, w, d1, di', e1, e _ _ e2, rfl, m.fr (fun a ha => e3 a (List.mem_append_left _ ha)) (m.up (Same.sub e) h1), q⟩
  exact ⟨d', by rw [← List.append_assoc]; exact p'.trans (List.perm_append_comm.append_right rs), h'⟩
omit [Lams] in
theorem foc_h2_0 {o2 : OR β} [n : OM o2] {x : α × β} {put : α × β → γ} (f : Foc sg d F M vs (oH2 o o2) v x put) : ∃ a u w, v = .ref a ∧ M a = some (.lst [u, w]) ∧ Foc sg d F M vs o u x.1 (fun x' => put (x', x.2)) := by
  obtain ⟨di, rs, p, ⟨a, u, w, d1, d2, e1, e2, rfl, h1, h2⟩, k⟩ := f
  refine ⟨a, u, w, e1, e2, d1, a :: d2 ++ rs, p.trans ?_, h1, fun F' M' di' x' e e3 q => ?_⟩
  · rw [← List.append_assoc]; exact (List.perm_middle.symm).append_right rs
  · obtain ⟨d', p', h'⟩ := k F' M' (a :: (di' ++ d2)) (x', x.2) e (fun b hb => e3 b (by simp [hb])) ⟨a, u, w, di', d2, e1, (e3 a (by simp)).trans e2, rfl, q, n.fr (fun b hb => e3 b (by simp [hb])) (n.up (Same.sub e) h2)⟩
    exact ⟨d', p'.trans (by rw [← List.append_assoc]; exact (List.perm_middle.symm).append_right rs), h'⟩
omit [Lams] in
theorem foc_h2_1 {o2 : OR β} [m : OM o] {x : α × β} {put : α × β → γ} (f : Foc sg d F M vs (oH2 o o2) v x put) : ∃ a u w, v = .ref a ∧ M a = some (.lst [u, w]) ∧ Foc sg d F M vs o2 w x.2 (fun x' => put (x.1, x')) := by
  obtain ⟨di, rs, p, ⟨a, u, w, d1, d2, e1, e2, rfl, h1, h2⟩, k⟩ := f
  have pp : ∀ z : List Addr, (a :: (d1 ++ z)).Perm (z ++ (a :: d1)) := fun z => (List.Perm.cons a List.perm_append_comm).trans List.perm_middle.symm
  refine ⟨a, u, w, e1, e2, d2, a :: d1 ++ rs, p.trans ?_, h2, fun F' M' di' x' e e3 q => ?_⟩
  · rw [← List.append_assoc]; exact (pp d2).append_right rs
  · obtain ⟨d', p', h'⟩ := k F' M' (a :: (d1 ++ di')) (x.1, x') e (fun b hb => e3 b (by simp [hb])) ⟨a, u, w, d1, di', e1, (e3 a (by simp)).trans e2, rfl, m.fr (fun b hb => e3 b (by simp [hb])) (m.up (Same.sub e) h1), q⟩
    exact ⟨d', p'.trans (by rw [← List.append_assoc]; exact (pp di').append_right rs), h'⟩
/-- what is behind a change of one cell, within or new -/
theorem SH.cell {z : γ} {l : Addr} {ho ho' : HO} {x : α} {put : α → γ} (h : SH M0 d0 sg d F M H vs z) (hl : l ∈ d) (f : Foc sg d F M vs o v x put) (F2 H2 : Hp) (x' : α) (e : Same F F2) (w : Own F2 (upd M l ho') H2)
    (k : ∀ di rs, d.Perm (di ++ rs) → o di F M v x → l ∉ rs ∧ ∃ di', (∀ a ∈ di', a ∈ di) ∧ di'.Nodup ∧ o di' F2 (upd M l ho') v x') : ∃ d', SH M0 d0 sg d' F2 (upd M l ho') H2 vs (put x') := by
  obtain ⟨di, rs, p, h1, kk⟩ := f
  obtain ⟨hr, di', h2, h3, h4⟩ := k di rs p h1
  obtain ⟨d', p', h5⟩ := kk F2 (upd M l ho') di' x' e (fun a ha => upd_ne fun q => hr (q ▸ ha)) h4
  have nd := p.nodup_iff.mp h.nd
  have nd2 := List.nodup_append.mp nd
  refine ⟨d', w, h5, p'.nodup_iff.mpr (List.nodup_append.mpr ⟨h3, nd2.2.1, fun a ha b hb => nd2.2.2 a (h2 a ha) b hb⟩), fun a ha => ?_, fun a ha hb => ?_⟩
  · refine h.n0 a (p.mem_iff.mpr ?_)
    rcases List.mem_append.mp (p'.mem_iff.mp ha) with q | q
    · exact List.mem_append_left _ (h2 a q)
    · exact List.mem_append_right _ q
  · rw [upd_ne fun q => by subst q; exact (h.n0 _ hl).elim ha fun z => hb z]
    exact h.sM a ha hb
omit [Lams] in
theorem nodup_hd {l : Addr} {d di rs : List Addr} (p : d.Perm (l :: di ++ rs)) (nd : d.Nodup) : l ∈ d ∧ l ∉ rs := by
  have q := p.nodup_iff.mp nd
  rw [List.cons_append, List.nodup_cons] at q
  exact ⟨p.mem_iff.mpr (by simp), fun z => q.1 (List.mem_append_right _ z)⟩
/-- a list of things that stand: its cell may be changed -/
theorem SH.lst {r : Rep α} {z : γ} {xs : List α} {put : List α → γ} (h : SH M0 d0 sg d F M H vs z) (f : Foc sg d F M vs (oL (oF r)) v xs put) : ∃ l ws, v = .ref l ∧ M l = some (.lst ws) ∧ ws.length = xs.length ∧ A2 (r F) ws xs ∧
    ∀ F2 H2 ws' xs', Same F F2 → Own F2 (upd M l (.lst ws')) H2 → A2 (r F2) ws' xs' → ∃ d', SH M0 d0 sg d' F2 (upd M l (.lst ws')) H2 vs (put xs') := by
  have f0 := f
  obtain ⟨di, rs, p, h1, kk⟩ := f0
  obtain ⟨l, ws, rfl, rfl, hM, hA⟩ := oL.at h1
  refine ⟨l, ws, rfl, hM, hA.len, hA, fun F2 H2 ws' xs' e w q => ?_⟩
  refine h.cell (ho := .lst ws) (nodup_hd p h.nd).1 f F2 H2 xs' e w fun di rs p h1 => ?_
  obtain ⟨l', ws2, rfl, e1, _, _⟩ := oL.at h1
  cases e1
  exact ⟨(nodup_hd p h.nd).2, [l], fun a ha => ha, by simp, oL.mk upd_same q⟩
theorem SH.dic {κ : Type} [DecidableEq κ] [KeyT κ] {r : Rep α} {z : γ} {xs : List (κ × α)} {put : List (κ × α) → γ} (h : SH M0 d0 sg d F M H vs z) (f : Foc sg d F M vs (oD κ (oF r)) v xs put) : ∃ l ws, v = .ref l ∧ M l = some (.dK ws) ∧ DK r F ws xs ∧
    ∀ F2 H2 ws' xs', Same F F2 → Own F2 (upd M l (.dK ws')) H2 → DK r F2 ws' xs' → ∃ d', SH M0 d0 sg d' F2 (upd M l (.dK ws')) H2 vs (put xs') := by
  have f0 := f
  obtain ⟨di, rs, p, h1, kk⟩ := f0
  obtain ⟨l, ws, rfl, rfl, hM, hA⟩ := oD.at h1
  refine ⟨l, ws, rfl, hM, hA, fun F2 H2 ws' xs' e w q => ?_⟩
  refine h.cell (ho := .dK ws) (nodup_hd p h.nd).1 f F2 H2 xs' e w fun di rs p h1 => ?_
  obtain ⟨l', ws2, rfl, e1, _, _⟩ := oD.at h1
  cases e1
  exact ⟨(nodup_hd p h.nd).2, [l], fun a ha => ha, by simp, oD.mk upd_same q⟩
theorem SH.dct {κ : Type} [DecidableEq κ] {rk : Rep κ} [TupB rk] {r : Rep α} {z : γ} {xs : List (κ × α)} {put : List (κ × α) → γ} (h : SH M0 d0 sg d F M H vs z) (f : Foc sg d F M vs (oDT rk r) v xs put) : ∃ l ws, v = .ref l ∧ M l = some (.dT ws) ∧ DT rk r F ws xs ∧
    ∀ F2 H2 ws' xs', Same F F2 → Own F2 (upd M l (.dT ws')) H2 → DT rk r F2 ws' xs' → ∃ d', SH M0 d0 sg d' F2 (upd M l (.dT ws')) H2 vs (put xs') := by
  have f0 := f
  obtain ⟨di, rs, p, h1, kk⟩ := f0
  obtain ⟨l, ws, rfl, rfl, hM, hA⟩ := h1
  refine ⟨l, ws, rfl, hM, hA, fun F2 H2 ws' xs' e w q => ?_⟩
  refine h.cell (ho := .dT ws) (nodup_hd p h.nd).1 f F2 H2 xs' e w fun di rs p h1 => ?_
  obtain ⟨l', ws2, rfl, e1, _, _⟩ := h1
  cases e1
  exact ⟨(nodup_hd p h.nd).2, [l], fun a ha => ha, by simp, l, ws', rfl, rfl, upd_same, q⟩
end
end
end Y

/-! ### statements over what is one's own; defs' promises by what they compute -/
namespace Y
open PySem PySem.Spec PyProof.Rows L2
/-- a state without its memory -/
structure SG (M0 : Hp) (d0 : List Addr) {β : Type} (s : OS β) (d : List Addr) (F M : Hp) (vs : List V) (x : β) : Prop where
  g : s d F M vs x
  nd : d.Nodup
  n0 : ∀ a ∈ d, a ∈ d0 ∨ M0 a = none
  sM : ∀ a, a ∉ d0 → M0 a ≠ none → M a = M0 a
theorem SG.up {M0 : Hp} {d0 : List Addr} {β : Type} {s : OS β} {d : List Addr} {F F2 M : Hp} {vs : List V} {x : β} [n : OMS s] (h : SG M0 d0 s d F M vs x) (e : Same F F2) : SG M0 d0 s d F2 M vs x := ⟨n.up (Same.sub e) h.g, h.nd, h.n0, h.sM⟩
section
variable [Lams] {X : Cx} {σ : L2.St} {F F1 F2 M M0 M1 M2 R H H2 : Hp} {d d0 d1 d2 : List Addr} {α β γ : Type} {o : OR α} {s : OS β} {vs us : List V} {v u : V} {x : α} {y : β}
theorem SH.sg (h : SH M0 d0 s d F M H vs y) : SG M0 d0 s d F M vs y := ⟨h.g, h.nd, h.n0, h.sM⟩
theorem SG.sh (h : SG M0 d0 s d F M vs y) (w : Own F M H) : SH M0 d0 s d F M H vs y := ⟨w, h.g, h.nd, h.n0, h.sM⟩
theorem SH.nil (w : Own F M H) : SH M [] oN [] F M H [] () := ⟨w, ⟨rfl, rfl⟩, List.nodup_nil, fun a ha => (nomatch ha), fun a _ _ => rfl⟩
theorem SH.start {γ : Type} {s : OS γ} {y : γ} (w : Own F M H) (g : s d F M vs y) (nd : d.Nodup) : SH M d s d F M H vs y := ⟨w, g, nd, fun a ha => .inl ha, fun a _ _ => rfl⟩
theorem SH.same (h : SH M0 [] s d F M H vs y) : Same M0 M := fun a o e => by rw [h.sM a (by simp) (by rw [e]; exact fun z => nomatch z)]; exact e
/-- the caller's own part, as it was -/
theorem SH.less (h : SH M0 [] s d F M H vs y) : Own F M0 H := h.w.lessM h.same
omit [Lams] in
theorem jnH_in {a : Addr} {o : HO} (h : R a = some o) : jnH M R a = some o := by unfold jnH; rw [h]
omit [Lams] in
theorem jnH_out {a : Addr} (h : R a = none) : jnH M R a = M a := by unfold jnH; rw [h]
/-- an expression that gives something new of one's own -/
def EvU (X : Cx) (e : Expr) (σ : L2.St) (F M : Hp) {α : Type} (o : OR α) (x : α) : Prop :=
  ∀ F1 H1, Same F F1 → Own F1 M H1 → ∀ Q : VK, (∀ F2 H2 R v d, Same F1 F2 → Own F2 (jnH M R) H2 → (∀ a, R a ≠ none → M a = none) → o d F2 R v x → d.Nodup → Q v H2) → WE X e σ H1 Q
theorem SH.new [m : OM o] [n : OMS s] (h : SH M0 d0 s d F M H vs y) (e : Same F F2) (w : Own F2 (jnH M R) H2) (ap : ∀ a, R a ≠ none → M a = none) (q : o d1 F2 R v x) (nd : d1.Nodup) : SH M0 d0 (oC o s) (d1 ++ d) F2 (jnH M R) H2 (v :: vs) (x, y) := by
  have r1 : ∀ a ∈ d1, M a = none := fun a ha => ap a (m.dm q a ha)
  have r2 : ∀ a ∈ d, R a = none := fun a ha => by
    cases z : R a with
    | none => rfl
    | some o => exact absurd (ap a (by rw [z]; exact fun z => nomatch z)) (n.dm h.g a ha)
  refine ⟨w, oC.mk (m.fr (fun a ha => ?_) q) (n.fr (fun a ha => jnH_out (r2 a ha)) (n.up (Same.sub e) h.g)), List.nodup_append.mpr ⟨nd, h.nd, fun a ha b hb z => ?_⟩, fun a ha => ?_, fun a ha hb => ?_⟩
  · obtain ⟨z, hz⟩ := Option.ne_none_iff_exists'.mp (m.dm q a ha)
    rw [jnH_in hz, hz]
  · subst z; exact n.dm h.g a hb (r1 a ha)
  · rcases List.mem_append.mp ha with ha | ha
    · by_cases c : a ∈ d0
      · exact .inl c
      · right
        cases z : M0 a with
        | none => rfl
        | some o => have := h.sM a c (by rw [z]; exact fun z => nomatch z); rw [r1 a ha, z] at this; cases this
    · exact h.n0 a ha
  · have e1 := h.sM a ha hb
    rw [jnH_out ?_]
    · exact e1
    · cases z : R a with
      | none => rfl
      | some o => rw [← e1] at hb; exact absurd (ap a (by rw [z]; exact fun z => nomatch z)) hb
variable {e : Expr} {pos p p2 : Pos} {n : Str} {rest : List Stmt} {D : Ends} {r : Rep α}
theorem EvN.toU [m : Mono r] {xs : List α} (h : EvN X e σ F M r xs) : EvU X e σ F M (oL (oF r)) xs := fun F1 H1 s1 w Q q => h F1 H1 s1 w Q fun F2 H2 l ws s2 w2 n1 n2 hh h2 => by
  refine q F2 H2 (upd (fun _ => none) l (.lst ws)) (.ref l) [l] s2 ?_ (fun a ha => ?_) (oL.mk upd_same h2) (by simp)
  · have e : jnH M (upd (fun _ => none) l (.lst ws)) = upd M l (.lst ws) := by
      funext a
      by_cases z : a = l
      · subst z; rw [upd_same]; exact jnH_in upd_same
      · rw [upd_ne z]; exact jnH_out (by rw [upd_ne z])
    rw [e]; exact w2.keepM n1 n2 hh
  · by_cases z : a = l
    · subst z; exact n2
    · rw [upd_ne z] at ha; exact absurd rfl ha
theorem EvU.eq {z : α} (h : EvU X e σ F M o x) (q : x = z) : EvU X e σ F M o z := q ▸ h
theorem EvU.up {F' : Hp} (h : EvU X e σ F M o x) (s1 : Same F F') : EvU X e σ F' M o x := fun F1 H1 s2 w Q q => h F1 H1 (s1.trans s2) w Q q
theorem own_fzU [m : OM o] [z : OZ o r] (w : Own F2 (jnH M R) H2) (ap : ∀ a, R a ≠ none → M a = none) (q : o d F2 R v x) : ∃ F3, Same F2 F3 ∧ Own F3 M H2 ∧ r F3 v x := by
  have hj : ∀ a ∈ d, jnH M R a = R a := fun a ha => by
    obtain ⟨z, hz⟩ := Option.ne_none_iff_exists'.mp (m.dm q a ha)
    rw [jnH_in hz, hz]
  have dm : ∀ a ∈ d, jnH M R a ≠ none := fun a ha => by rw [hj a ha]; exact m.dm q a ha
  have sF := w.sameAdd dm
  refine ⟨addF F2 (jnH M R) d, sF, w.fzD.lessM fun a x hx => ?_, z.fz (Same.sub sF) (fun a ha => (addF_in ha).trans (hj a ha)) q⟩
  have hR : R a = none := by
    cases z : R a with
    | none => rfl
    | some o => rw [ap a (by rw [z]; exact fun z => nomatch z)] at hx; cases hx
  rw [delD_out fun z => m.dm q a z hR, jnH_out hR]; exact hx
theorem EvU.fz [m : OM o] [z : OZ o r] (h : EvU X e σ F M o x) : EvF X e σ F M r x := fun F1 H1 s1 w Q q => h F1 H1 s1 w Q fun F2 H2 R v d s2 w2 ap hq nd => by
  obtain ⟨F3, s3, w3, h3⟩ := own_fzU (r := r) w2 ap hq
  exact q F3 H2 v (s2.trans s3) w3 h3
theorem ss_setU [m : OM o] [q : OMS s] (i : Nat) (he : EvU X e σ F M o x) (h : SH M0 d0 s d F M H vs y) (k : ∀ F2 M2 H2 v d2, Same F F2 → SH M0 d0 (oC o s) d2 F2 M2 H2 (v :: vs) (x, y) → WSs X rest D (σ.set i (some v)) H2)
    (hN : X.N.Nodup) (hi : X.N[i]? = some n := by rfl) (hx : Loc X.env.scope n := by first | exact Or.inl rfl | exact Or.inr rfl) (hs : swapsWith e (some (.Name n p)) pos.line X.env = pure false := by rfl) (hf : X.fn n = true ∨ X.env.scope.names.lookup n = some .local := by first | exact .inl rfl | exact .inr rfl) :
    WSs X (.Assign [.Name n p] e pos :: rest) D σ H :=
  wss_cons (ws_of (ps_set hN hi hx (pe_w e) hs hf) (he F H (Same.refl _) h.w _ fun F2 H2 R v d1 s2 w2 ap hq nd => k F2 _ H2 v _ s2 (h.new s2 w2 ap hq nd)))
/-- a comprehension, whose list goes on being one's own -/
theorem SH.lcN [q : OMS s] [Mono r] {l : Addr} {ws : List V} {xs : List α} (h : SH M0 d0 s d F M H vs y) (e : Same F F2) (nl : M l = none) (w : Own F2 (upd M l (.lst ws)) H2) (hA : A2 (r F2) ws xs) : SH M0 d0 (oC (oL (oF r)) s) ([l] ++ d) F2 (upd M l (.lst ws)) H2 (.ref l :: vs) (xs, y) := by
  have ej : jnH M (upd (fun _ => none) l (.lst ws)) = upd M l (.lst ws) := by
    funext a
    by_cases z : a = l
    · subst z; rw [upd_same]; exact jnH_in upd_same
    · rw [upd_ne z]; exact jnH_out (by rw [upd_ne z])
  have := h.new (o := oL (oF r)) (R := upd (fun _ => none) l (.lst ws)) (v := .ref l) (d1 := [l]) (x := xs) e (by rw [ej]; exact w) (fun a ha => by
    by_cases z : a = l
    · subst z; exact nl
    · rw [upd_ne z] at ha; exact absurd rfl ha) (oL.mk upd_same hA) (by simp)
  rw [ej] at this; exact this
theorem SH.dkN {κ : Type} [DecidableEq κ] [KeyT κ] [q : OMS s] [Mono r] {l : Addr} (h : SH M0 d0 s d F M H vs y) (nl : M l = none) (w : Own F (upd M l (.dK [])) H2) : SH M0 d0 (oC (oD κ (oF r)) s) ([l] ++ d) F (upd M l (.dK [])) H2 (.ref l :: vs) ([], y) := by
  have ej : jnH M (upd (fun _ => none) l (.dK [])) = upd M l (.dK []) := by
    funext a
    by_cases z : a = l
    · subst z; rw [upd_same]; exact jnH_in upd_same
    · rw [upd_ne z]; exact jnH_out (by rw [upd_ne z])
  have := h.new (o := oD κ (oF r)) (R := upd (fun _ => none) l (.dK [])) (v := .ref l) (d1 := [l]) (x := []) (Same.refl _) (by rw [ej]; exact w) (fun a ha => by
    by_cases z : a = l
    · subst z; exact nl
    · rw [upd_ne z] at ha; exact absurd rfl ha) (oD.mk upd_same DK.nil) (by simp)
  rw [ej] at this; exact this
theorem SH.dkO {κ : Type} [DecidableEq κ] [KeyT κ] [q : OMS s] [OM o] {l : Addr} (h : SH M0 d0 s d F M H vs y) (nl : M l = none) (w : Own F (upd M l (.dK [])) H2) : SH M0 d0 (oC (oD κ o) s) ([l] ++ d) F (upd M l (.dK [])) H2 (.ref l :: vs) ([], y) := by
  have ej : jnH M (upd (fun _ => none) l (.dK [])) = upd M l (.dK []) := by
    funext a
    by_cases z : a = l
    · subst z; rw [upd_same]; exact jnH_in upd_same
    · rw [upd_ne z]; exact jnH_out (by rw [upd_ne z])
  have := h.new (o := oD κ o) (R := upd (fun _ => none) l (.dK [])) (v := .ref l) (d1 := [l]) (x := []) (Same.refl _) (by rw [ej]; exact w) (fun a ha => by
    by_cases z : a = l
    · subst z; exact nl
    · rw [upd_ne z] at ha; exact absurd rfl ha) ⟨l, [], [], rfl, rfl, upd_same, .nil, List.nodup_nil, .nil⟩ (by simp)
  rw [ej] at this; exact this
theorem SH.dtN {κ : Type} [DecidableEq κ] {rk : Rep κ} [TupB rk] [q : OMS s] [Mono r] {l : Addr} (h : SH M0 d0 s d F M H vs y) (nl : M l = none) (w : Own F (upd M l (.dT [])) H2) : SH M0 d0 (oC (oDT rk r) s) ([l] ++ d) F (upd M l (.dT [])) H2 (.ref l :: vs) ([], y) := by
  have ej : jnH M (upd (fun _ => none) l (.dT [])) = upd M l (.dT []) := by
    funext a
    by_cases z : a = l
    · subst z; rw [upd_same]; exact jnH_in upd_same
    · rw [upd_ne z]; exact jnH_out (by rw [upd_ne z])
  have := h.new (o := oDT rk r) (R := upd (fun _ => none) l (.dT [])) (v := .ref l) (d1 := [l]) (x := []) (Same.refl _) (by rw [ej]; exact w) (fun a ha => by
    by_cases z : a = l
    · subst z; exact nl
    · rw [upd_ne z] at ha; exact absurd rfl ha) ⟨l, [], rfl, rfl, upd_same, DT.nil⟩ (by simp)
  rw [ej] at this; exact this
/-- {} -/
theorem ss_setDu {κ : Type} [DecidableEq κ] [KeyT κ] [q : OMS s] [OM o] (i : Nat) (h : SH M0 d0 s d F M H vs y) (k : ∀ M2 H2 v d2, SH M0 d0 (oC (oD κ o) s) d2 F M2 H2 (v :: vs) ([], y) → WSs X rest D (σ.set i (some v)) H2)
    (hN : X.N.Nodup) (hi : X.N[i]? = some n := by rfl) (hx : Loc X.env.scope n := by first | exact Or.inl rfl | exact Or.inr rfl) (hs : swapsWith (.Dict [] [] p2) (some (.Name n p)) pos.line X.env = pure false := by rfl) (hf : X.fn n = true ∨ X.env.scope.names.lookup n = some .local := by first | exact .inl rfl | exact .inr rfl) :
    WSs X (.Assign [.Name n p] (.Dict [] [] p2) pos :: rest) D σ H := ss_setD i h.w (fun H2 l nl w => k _ H2 _ _ (h.dkO nl w)) hN hi hx hs hf
theorem ss_setDtu {κ : Type} [DecidableEq κ] {rk : Rep κ} [TupB rk] [q : OMS s] [Mono r] (i : Nat) (h : SH M0 d0 s d F M H vs y) (k : ∀ M2 H2 v d2, SH M0 d0 (oC (oDT rk r) s) d2 F M2 H2 (v :: vs) ([], y) → WSs X rest D (σ.set i (some v)) H2)
    (hN : X.N.Nodup) (hi : X.N[i]? = some n := by rfl) (hx : Loc X.env.scope n := by first | exact Or.inl rfl | exact Or.inr rfl) (hs : swapsWith (.Dict [] [] p2) (some (.Name n p)) pos.line X.env = pure false := by rfl) (hf : X.fn n = true ∨ X.env.scope.names.lookup n = some .local := by first | exact .inl rfl | exact .inr rfl) :
    WSs X (.Assign [.Name n p] (.Dict [] [] p2) pos :: rest) D σ H := ss_setDt i h.w (fun H2 l nl w => k _ H2 _ _ (h.dtN nl w)) hN hi hx hs hf
/-! what is told at the end -/
theorem SH.out [m : OM o] (h : SH M0 [] (oC o s) d F M H (v :: vs) (x, y)) : ∃ R d1, Own F (jnH M0 R) H ∧ (∀ a, R a ≠ none → M0 a = none) ∧ o d1 F R v x ∧ d1.Nodup := by
  obtain ⟨d1, d2, rfl, h1, h2⟩ := oC.at h.g
  have n0 : ∀ a ∈ d1, M0 a = none := fun a ha => (h.n0 a (List.mem_append_left _ ha)).elim (fun z => by cases z) id
  have eR : ∀ a ∈ d1, (fun a => if a ∈ d1 then M a else none : Hp) a = M a := fun a ha => if_pos ha
  refine ⟨fun a => if a ∈ d1 then M a else none, d1, h.w.lessM fun a x hx => ?_, fun a ha => ?_, m.fr eR h1, (List.nodup_append.mp h.nd).1⟩
  · by_cases z : a ∈ d1
    · have : (fun a => if a ∈ d1 then M a else none : Hp) a = M a := eR a z
      unfold jnH at hx; dsimp only at hx; rw [if_pos z] at hx
      cases q : M a with
      | none => exact absurd q (m.dm h1 a z)
      | some o => rw [q] at hx; exact hx
    · unfold jnH at hx; dsimp only at hx; rw [if_neg z] at hx; exact h.same a x hx
  · by_cases z : a ∈ d1
    · exact n0 a z
    · exact absurd (if_neg z) ha
theorem SH.outE (h : SH M0 [] s d F M H vs y) (e : Same F F2) (w : Own F2 (jnH M R) H2) (ap : ∀ a, R a ≠ none → M a = none) : Own F2 (jnH M0 R) H2 ∧ ∀ a, R a ≠ none → M0 a = none := by
  have ap0 : ∀ a, R a ≠ none → M0 a = none := fun a ha => by
    cases z : M0 a with
    | none => rfl
    | some o => exact absurd (ap a ha) (fun q => by rw [h.same a o z] at q; cases q)
  refine ⟨w.lessM fun a x hx => ?_, ap0⟩
  cases z : R a with
  | some o => rw [jnH_in z] at hx; rw [jnH_in z]; exact hx
  | none => rw [jnH_out z] at hx; rw [jnH_out z]; exact h.same a x hx
theorem ss_retU (he : EvU X e σ F M o x) (h : SH M0 [] s d F M H vs y) (kk : ∀ F2 H2 R v d, Same F F2 → Own F2 (jnH M0 R) H2 → (∀ a, R a ≠ none → M0 a = none) → o d F2 R v x → d.Nodup → D.rt v H2) : WSs X (.Return (some e) pos :: rest) D σ H :=
  wss_cons (ws_of (ps_ret (pe_w e)) (he F H (Same.refl _) h.w _ fun F2 H2 R v d1 s2 w2 ap hq nd => let ⟨a, b⟩ := h.outE s2 w2 ap; kk F2 H2 R v d1 s2 a b hq nd))
theorem ss_retV (i : Nat) [m : OM o] (h : SH M0 [] (oC o s) d F M H (v :: vs) (x, y)) (hσ : σ[i]? = some (some v)) (kk : ∀ R d, Own F (jnH M0 R) H → (∀ a, R a ≠ none → M0 a = none) → o d F R v x → d.Nodup → D.rt v H)
    (hN : X.N[i]? = some n := by rfl) (hv : Vis X.env.scope n := by first | exact Or.inl rfl | exact Or.inr (Or.inl rfl) | exact Or.inr (Or.inr rfl)) (hd : (n == ("__debug__" : Str)) = false := by decide) (hcd : (n == ("__classdict__" : Str)) = false := by decide) : WSs X (.Return (some (.Name n p)) pos :: rest) D σ H :=
  let ⟨R, d1, a, b, c, e⟩ := h.out
  wss_cons (ws_of (ps_ret (pe_var hN hv hd hcd)) ⟨v, hσ, kk R d1 a b c e⟩)
/-! ### reading what is one's own -/
/-- whatever it is -/
def anyR {α : Type} : Rep α := fun _ _ _ => True
instance {α : Type} : Mono (anyR (α := α)) := ⟨fun _ h => h⟩
omit [Lams] in
theorem AO.any {F M : Hp} : ∀ {ds : List Addr} {vs : List V} {xs : List α}, AO o F M ds vs xs → A2 (anyR F) vs xs
  | _, _, _, .nil => .nil
  | _, _, _, .cons _ t => .cons trivial t.any
/-- an expression that tells what is one's own, to be looked at -/
abbrev EvP (X : Cx) (e : Expr) (σ : L2.St) (F M : Hp) {α : Type} (o : OR α) (x : α) : Prop := Ev X e σ F M fun F v => Om o F M v x
theorem evp_name (i : Nat) [m : OM o] (hs : σ[i]? = some (some v)) (h : Om o F M v x) (hN : X.N[i]? = some n := by rfl) (hv : Vis X.env.scope n := by first | exact Or.inl rfl | exact Or.inr (Or.inl rfl) | exact Or.inr (Or.inr rfl)) (hd : (n == ("__debug__" : Str)) = false := by decide) (hcd : (n == ("__classdict__" : Str)) = false := by decide) :
    EvP X (.Name n pos) σ F M o x := fun F1 H1 s w Q q => we_of (pe_var hN hv hd hcd) ⟨v, hs, q F1 H1 v (Same.refl _) w (h.up (Same.sub s) (Same.refl _))⟩
theorem EvP.rd [m : Mono r] {xs : List α} (h : EvP X e σ F M (oL (oF r)) xs) : EvF X e σ F M (rdR X.K M r) xs := h.imp fun F v ⟨d, h⟩ => let ⟨l, ws, _, e2, e3, e4⟩ := oL.at h; ⟨l, ws, e2, .inr e3, e4⟩
theorem EvP.rt [m : Mono r] {xs : List α} (h : EvP X e σ F M (oL (oF r)) xs) : EvF X e σ F M (rtR M r) xs := h.imp fun F v ⟨d, h⟩ => let ⟨l, ws, _, e2, e3, e4⟩ := oL.at h; ⟨l, ws, e2, .inr e3, e4⟩
theorem EvP.any {xs : List α} (h : EvP X e σ F M (oL o) xs) : EvF X e σ F M (rdR X.K M anyR) xs := h.imp fun F v ⟨d, h⟩ => let ⟨l, ws, ds, e1, e2, e3, e4⟩ := h; ⟨l, ws, e2, .inr e3, e4.any⟩
theorem EvP.f (h : EvP X e σ F M (oF r) x) : EvF X e σ F M r x := h.imp fun F v ⟨d, h⟩ => h.2
theorem EvP.dd {κ : Type} [DecidableEq κ] [KeyT κ] [m : Mono r] {xs : List (κ × α)} (h : EvP X e σ F M (oD κ (oF r)) xs) : EvF X e σ F M (rdD M r) xs := h.imp fun F v ⟨d, h⟩ => let ⟨l, ws, _, e2, e3, e4⟩ := oD.at h; ⟨l, ws, e2, .inr e3, e4⟩
theorem EvP.dt {κ : Type} [DecidableEq κ] {rk : Rep κ} [TupB rk] [m : Mono r] {xs : List (κ × α)} (h : EvP X e σ F M (oDT rk r) xs) : EvF X e σ F M (rdT M rk r) xs := h.imp fun F v ⟨d, l, ws, _, e2, e3, e4⟩ => ⟨l, ws, e2, .inr e3, e4⟩
theorem rdD.any {κ : Type} [DecidableEq κ] [KeyT κ] {xs : List (κ × α)} (h : EvP X e σ F M (oD κ o) xs) : EvF X e σ F M (rdD M anyR) xs := h.imp fun F v ⟨d, l, ks, ds, e1, e2, e3, e4, e5, e6⟩ => ⟨l, ks, e2, .inr e3, A2.dk.mpr ⟨e4, e6.any⟩, e5⟩
omit [Lams] in
theorem AO.get {F M : Hp} : ∀ {ds : List Addr} {vs : List V} {xs : List α} {j : Nat} {x : α}, AO o F M ds vs xs → xs[j]? = some x → ∃ u, vs[j]? = some u ∧ Om o F M u x := fun h hx => let ⟨u, _, dj, _, _, h2, h3, _⟩ := h.at hx; ⟨u, h2, dj, h3⟩
theorem evp_ix [Inhabited α] [m : OM o] {xs : List α} {i : Int} {b : Expr} (ha : EvP X e σ F M (oL o) xs) (hb : EvF X b σ F M iR i) (h : -(xs.length : Int) ≤ i ∧ i < xs.length) (hs : PlainIx b := by exact fun _ _ => rfl) : EvP X (.Subscript e b pos) σ F M o (gI xs i) :=
  fun F1 H1 s w Q q => we_of (pe_ix ix_list (pe_w e) (pe_w b) hs) (ha F1 H1 s w _ fun F2 H2 v s2 w2 hv => hb F2 H2 (s.trans s2) w2 _ fun F3 H3 u s3 w3 hu => by
    obtain ⟨d, l, ws, ds, e1, e2, e3, e4⟩ := hv
    have hl := e4.len
    obtain ⟨j, hj, hjl⟩ := ixN_some h
    have hx : xs[j]? = some (gI xs i) := by
      unfold gI atI; rw [hj]; rw [Option.bind_some, List.getElem?_eq_getElem hjl]; rfl
    obtain ⟨u2, hu2, ho⟩ := e4.get hx
    refine ⟨l, ws, i, u2, e2, hu, SqL.of (w3.m _ _ e3), ?_, q F3 H3 _ (s2.trans s3) w3 (ho.up (Same.sub s3) (Same.refl _))⟩
    unfold atI; rw [show ws.length = xs.length from hl, hj]; exact hu2)
theorem evp_t2_0 {o2 : OR β} {x : α × β} {j} {q1} (ha : EvP X e σ F M (oT2 o o2) x) (hs : PlainIx (.Constant (.int 0) j q1) := by exact fun _ _ => rfl) : EvP X (.Subscript e (.Constant (.int 0) j q1) pos) σ F M o x.1 :=
  fun F1 H1 s w Q q => we_of (pe_ix ix_tup (pe_w e) pe_int hs) (ha F1 H1 s w _ fun F2 H2 v s2 w2 ⟨d, a, u, w', d1, d2, e1, e2, e3, h1, h2⟩ => ⟨a, _, 0, u, e1, rfl, .inl (.inl (w2.f _ _ e2)), rfl, q F2 H2 u s2 w2 ⟨d1, h1⟩⟩)
theorem evp_t2_1 {o2 : OR β} {x : α × β} {j} {q1} (ha : EvP X e σ F M (oT2 o o2) x) (hs : PlainIx (.Constant (.int 1) j q1) := by exact fun _ _ => rfl) : EvP X (.Subscript e (.Constant (.int 1) j q1) pos) σ F M o2 x.2 :=
  fun F1 H1 s w Q q => we_of (pe_ix ix_tup (pe_w e) pe_int hs) (ha F1 H1 s w _ fun F2 H2 v s2 w2 ⟨d, a, u, w', d1, d2, e1, e2, e3, h1, h2⟩ => ⟨a, _, 1, w', e1, rfl, .inl (.inl (w2.f _ _ e2)), rfl, q F2 H2 w' s2 w2 ⟨d2, h2⟩⟩)
theorem evp_h2_0 {o2 : OR β} {x : α × β} {j} {q1} (ha : EvP X e σ F M (oH2 o o2) x) (hs : PlainIx (.Constant (.int 0) j q1) := by exact fun _ _ => rfl) : EvP X (.Subscript e (.Constant (.int 0) j q1) pos) σ F M o x.1 :=
  fun F1 H1 s w Q q => we_of (pe_ix ix_list (pe_w e) pe_int hs) (ha F1 H1 s w _ fun F2 H2 v s2 w2 ⟨d, a, u, w', d1, d2, e1, e2, e3, h1, h2⟩ => ⟨a, _, 0, u, e1, rfl, SqL.of (w2.m _ _ e2), rfl, q F2 H2 u s2 w2 ⟨d1, h1⟩⟩)
theorem evp_h2_1 {o2 : OR β} {x : α × β} {j} {q1} (ha : EvP X e σ F M (oH2 o o2) x) (hs : PlainIx (.Constant (.int 1) j q1) := by exact fun _ _ => rfl) : EvP X (.Subscript e (.Constant (.int 1) j q1) pos) σ F M o2 x.2 :=
  fun F1 H1 s w Q q => we_of (pe_ix ix_list (pe_w e) pe_int hs) (ha F1 H1 s w _ fun F2 H2 v s2 w2 ⟨d, a, u, w', d1, d2, e1, e2, e3, h1, h2⟩ => ⟨a, _, 1, w', e1, rfl, SqL.of (w2.m _ _ e2), rfl, q F2 H2 w' s2 w2 ⟨d2, h2⟩⟩)
/-! the very thing at a path -/
abbrev EvV (X : Cx) (e : Expr) (σ : L2.St) (F M : Hp) (v : V) : Prop := Ev X e σ F M fun _ u => u = v
theorem evv_ix {l : Addr} {ws : List V} {i : Int} {b : Expr} (ha : EvV X e σ F M (.ref l)) (hM : M l = some (.lst ws)) (hb : EvF X b σ F M iR i) (h : atI ws i = some u) (hs : PlainIx b := by exact fun _ _ => rfl) : EvV X (.Subscript e b pos) σ F M u :=
  fun F1 H1 s w Q q => we_of (pe_ix ix_list (pe_w e) (pe_w b) hs) (ha F1 H1 s w _ fun F2 H2 v s2 w2 hv => hb F2 H2 (s.trans s2) w2 _ fun F3 H3 u s3 w3 hu => ⟨l, ws, i, _, hv, hu, SqL.of (w3.m _ _ hM), h, q F3 H3 _ (s2.trans s3) w3 rfl⟩)
theorem evv_tix {a : Addr} {ws : List V} {i : Int} {j} {q1} (ha : EvV X e σ F M (.ref a)) (hF : F a = some (.tup ws)) (h : atI ws i = some u) (hs : PlainIx (.Constant (.int i) j q1) := by exact fun _ _ => rfl) : EvV X (.Subscript e (.Constant (.int i) j q1) pos) σ F M u :=
  fun F1 H1 s w Q q => we_of (pe_ix ix_tup (pe_w e) pe_int hs) (ha F1 H1 s w _ fun F2 H2 v s2 w2 hv => ⟨a, ws, i, _, hv, rfl, .inl (.inl (w2.f _ _ (s2 _ _ (s _ _ hF)))), h, q F2 H2 _ s2 w2 rfl⟩)
/-! ### changes -/
/-- p.append(e) -/
theorem sh_app {a : Expr} {put : List α → β} {xs : List α} {cpos apos : Pos} [m : Mono r] [q : OMS s] (h : SH M0 d0 s d F M H vs y) (f : Foc s d F M vs (oL (oF r)) v xs put) (ho : EvV X a σ F M v) (he : EvF X e σ F M r x) (hz : xs.length < 1000000)
    (k : ∀ F2 M2 H2 d2, Same F F2 → SH M0 d0 s d2 F2 M2 H2 vs (put (xs ++ [x])) → WSs X rest D σ H2)
    (hbase : attributeBase a "append" X.env (eval a X.env) = eval a X.env := by rfl)
    (hfew : ((backTo cpos (starEach [e] X.env)).all (fun x => !x.1) && (backToKw cpos (keywordEach [] X.env)).all (fun x => x.1.isSome)
      && decide ([e].length + ([] : List Keyword).length + (if ([] : List Keyword).isEmpty then 0 else 1) < 30)) = true := by rfl)
    (hline : (apos.endLine == cpos.line) = true := by rfl) (hst : starEach [e] X.env = (false, eval e X.env) :: starEach [] X.env := by rfl) (hplain : (backTo cpos (starEach [] X.env)).any (·.1) = false := by rfl)
    (hsw : swapsWith (.Call (.Attribute a "append" apos) [e] [] cpos) none pos.line X.env = pure false := by rfl) :
    WSs X (.Expr (.Call (.Attribute a "append" apos) [e] [] cpos) pos :: rest) D σ H := by
  obtain ⟨l, ws, rfl, hM, hlen, hA, kk⟩ := h.lst f
  refine wss_cons (ws_of (ps_expr (pe_bm PySem.F.plainAttrs_list PySem.F.slot_list_append PySem.F.type_list_append mt_append (pe_w a) (pa_cons (pe_w e) pa_nil hst) hbase hfew hline hst hplain) hsw)
    (ho F H (Same.refl _) h.w _ fun F2 H2 v2 s2 w2 hv => by
      subst hv
      refine ⟨.inl ⟨rfl, _, SqL.of (w2.m _ _ hM)⟩, he F2 H2 s2 w2 _ fun F3 H3 v3 s3 w3 hv3 => ⟨l, ws, v3, rfl, rfl, w3.m _ _ hM, Nat.lt_of_lt_of_le (by rw [hlen]; exact hz) (by decide), ?_⟩⟩
      obtain ⟨d2, h2⟩ := kk F3 _ (ws ++ [v3]) (xs ++ [x]) (s2.trans s3) (w3.put hM) ((hA.up (s2.trans s3)).push hv3)
      exact k F3 _ _ d2 (s2.trans s3) h2))
theorem sh_ext {a : Expr} {put : List α → β} {xs ys : List α} {cpos apos : Pos} [m : Mono r] [q : OMS s] (h : SH M0 d0 s d F M H vs y) (f : Foc s d F M vs (oL (oF r)) v xs put) (ho : EvV X a σ F M v) (he : EvF X e σ F M (rtR M r) ys) (hz : xs.length + ys.length ≤ 1000000)
    (k : ∀ F2 M2 H2 d2, Same F F2 → SH M0 d0 s d2 F2 M2 H2 vs (put (xs ++ ys)) → WSs X rest D σ H2)
    (hbase : attributeBase a "extend" X.env (eval a X.env) = eval a X.env := by rfl)
    (hfew : ((backTo cpos (starEach [e] X.env)).all (fun x => !x.1) && (backToKw cpos (keywordEach [] X.env)).all (fun x => x.1.isSome)
      && decide ([e].length + ([] : List Keyword).length + (if ([] : List Keyword).isEmpty then 0 else 1) < 30)) = true := by rfl)
    (hline : (apos.endLine == cpos.line) = true := by rfl) (hst : starEach [e] X.env = (false, eval e X.env) :: starEach [] X.env := by rfl) (hplain : (backTo cpos (starEach [] X.env)).any (·.1) = false := by rfl)
    (hsw : swapsWith (.Call (.Attribute a "extend" apos) [e] [] cpos) none pos.line X.env = pure false := by rfl) :
    WSs X (.Expr (.Call (.Attribute a "extend" apos) [e] [] cpos) pos :: rest) D σ H := by
  obtain ⟨l, ws, rfl, hM, hlen, hA, kk⟩ := h.lst f
  refine wss_cons (ws_of (ps_expr (pe_bm PySem.F.plainAttrs_list PySem.F.slot_list_extend PySem.F.type_list_extend mt_extend (pe_w a) (pa_cons (pe_w e) pa_nil hst) hbase hfew hline hst hplain) hsw)
    (ho F H (Same.refl _) h.w _ fun F2 H2 v2 s2 w2 hv => by
      subst hv
      refine ⟨.inl ⟨rfl, _, SqL.of (w2.m _ _ hM)⟩, he F2 H2 s2 w2 _ fun F3 H3 v3 s3 w3 ⟨b, us, eb, hb, hB⟩ => ⟨l, b, ws, us, rfl, by rw [eb], w3.m _ _ hM, hb.elim (fun q => w3.f _ _ q) (fun q => w3.m _ _ q), Nat.le_trans (by rw [hlen, hB.len]; exact hz) (by decide), ?_⟩⟩
      obtain ⟨d2, h2⟩ := kk F3 _ (ws ++ us) (xs ++ ys) (s2.trans s3) (w3.put hM) ((hA.up (s2.trans s3)).app hB)
      exact k F3 _ _ d2 (s2.trans s3) h2))
theorem sh_rvs {a : Expr} {put : List α → β} {xs : List α} {cpos apos : Pos} [m : Mono r] [q : OMS s] (h : SH M0 d0 s d F M H vs y) (f : Foc s d F M vs (oL (oF r)) v xs put) (ho : EvV X a σ F M v)
    (k : ∀ F2 M2 H2 d2, Same F F2 → SH M0 d0 s d2 F2 M2 H2 vs (put xs.reverse) → WSs X rest D σ H2)
    (hbase : attributeBase a "reverse" X.env (eval a X.env) = eval a X.env := by rfl) (hline : (apos.endLine == cpos.line) = true := by rfl)
    (hsw : swapsWith (.Call (.Attribute a "reverse" apos) [] [] cpos) none pos.line X.env = pure false := by rfl) :
    WSs X (.Expr (.Call (.Attribute a "reverse" apos) [] [] cpos) pos :: rest) D σ H := by
  obtain ⟨l, ws, rfl, hM, hlen, hA, kk⟩ := h.lst f
  refine wss_cons (ws_of (ps_expr (pe_bm0 PySem.F.plainAttrs_list PySem.F.slot_list_reverse PySem.F.type_list_reverse mt_reverse (pe_w a) hbase hline) hsw)
    (ho F H (Same.refl _) h.w _ fun F2 H2 v2 s2 w2 hv => by
      subst hv
      refine ⟨.inl ⟨rfl, _, SqL.of (w2.m _ _ hM)⟩, l, ws, rfl, rfl, w2.m _ _ hM, ?_⟩
      obtain ⟨d2, h2⟩ := kk F2 _ ws.reverse xs.reverse s2 (w2.put hM) (hA.up s2).rev
      exact k F2 _ _ d2 s2 h2))
theorem sh_clr {a : Expr} {put : List α → β} {xs : List α} {cpos apos : Pos} [m : Mono r] [q : OMS s] (h : SH M0 d0 s d F M H vs y) (f : Foc s d F M vs (oL (oF r)) v xs put) (ho : EvV X a σ F M v)
    (k : ∀ F2 M2 H2 d2, Same F F2 → SH M0 d0 s d2 F2 M2 H2 vs (put []) → WSs X rest D σ H2)
    (hbase : attributeBase a "clear" X.env (eval a X.env) = eval a X.env := by rfl) (hline : (apos.endLine == cpos.line) = true := by rfl)
    (hsw : swapsWith (.Call (.Attribute a "clear" apos) [] [] cpos) none pos.line X.env = pure false := by rfl) :
    WSs X (.Expr (.Call (.Attribute a "clear" apos) [] [] cpos) pos :: rest) D σ H := by
  obtain ⟨l, ws, rfl, hM, hlen, hA, kk⟩ := h.lst f
  refine wss_cons (ws_of (ps_expr (pe_bm0 PySem.F.plainAttrs_list PySem.F.slot_list_clear PySem.F.type_list_clear mt_clear (pe_w a) hbase hline) hsw)
    (ho F H (Same.refl _) h.w _ fun F2 H2 v2 s2 w2 hv => by
      subst hv
      refine ⟨.inl ⟨rfl, _, SqL.of (w2.m _ _ hM)⟩, l, ws, rfl, rfl, w2.m _ _ hM, ?_⟩
      obtain ⟨d2, h2⟩ := kk F2 _ [] [] s2 (w2.put hM) .nil
      exact k F2 _ _ d2 s2 h2))
/-- p[i] = e -/
def setI {α : Type} (xs : List α) (i : Int) (x : α) : List α := xs.set (if i < 0 then i + xs.length else i).toNat x
theorem sh_put {a ix : Expr} {put : List α → β} {xs : List α} {i : Int} {q2 : Pos} [m : Mono r] [q : OMS s] (h : SH M0 d0 s d F M H vs y) (f : Foc s d F M vs (oL (oF r)) v xs put) (ho : EvV X a σ F M v) (he : EvF X e σ F M r x) (hix : EvF X ix σ F M iR i) (hi : -(xs.length : Int) ≤ i ∧ i < xs.length)
    (k : ∀ F2 M2 H2 d2, Same F F2 → SH M0 d0 s d2 F2 M2 H2 vs (put (setI xs i x)) → WSs X rest D σ H2)
    (z1 : swapsWithSole [.Subscript a ix q2] e pos.line X.env = pure false := by rfl) (z2 : swappedStores [.Subscript a ix q2] e X.env = pure none := by rfl)
    (z3 : (assignEach [.Subscript a ix q2] X.env).map (·.2) = [assign (.Subscript a ix q2) X.env] := by rfl)
    (z4 : ∀ v, assign (.Subscript a ix q2) X.env v = (do
      let ov ← holding [v] (eval a X.env)
      let iv ← holding [v, ov] (eval ix X.env)
      standAt q2
      holding [v, ov, iv] (setItem ov iv v)
      release [v, ov, iv] []) := by intro _; rfl) :
    WSs X (.Assign [.Subscript a ix q2] e pos :: rest) D σ H := by
  obtain ⟨l, ws, rfl, hM, hlen, hA, kk⟩ := h.lst f
  refine wss_cons (ws_of (ps_asg (pe_w e) (pg_sub (pe_w a) (pe_w ix) set_list z4) z1 z2 z3) (he F H (Same.refl _) h.w _ fun F2 H2 v3 s2 w2 hv3 => ho F2 H2 s2 w2 _ fun F3 H3 v2 s3 w3 hv => hix F3 H3 (s2.trans s3) w3 _ fun F4 H4 u s4 w4 hu =>
    ⟨l, ws, i, (if i < 0 then i + xs.length else i).toNat, hv, hu, w4.m _ _ hM, ?_, ?_⟩))
  · unfold ixN
    rw [hlen]
    by_cases c : 0 ≤ i
    · rw [if_pos c, if_pos (by omega), if_neg (show ¬ i < 0 by omega)]
    · rw [if_neg c, if_pos (by omega), if_pos (show i < 0 by omega)]
  · obtain ⟨d2, h2⟩ := kk F4 _ (ws.set (if i < 0 then i + xs.length else i).toNat v3) (setI xs i x) ((s2.trans s3).trans s4) (w4.put hM) (A2.set (Mono.mono (s3.trans s4) hv3) _ (hA.up ((s2.trans s3).trans s4)))
    exact k F4 _ _ d2 ((s2.trans s3).trans s4) h2
theorem sh_dput {κ : Type} [DecidableEq κ] [t : KeyT κ] {a ix : Expr} {kx : κ} {put : List (κ × α) → β} {xs : List (κ × α)} {q2 : Pos} [m : Mono r] [q : OMS s] (hu : X.A.units + 64 < cLine) (h : SH M0 d0 s d F M H vs y) (f : Foc s d F M vs (oD κ (oF r)) v xs put) (ho : EvV X a σ F M v) (he : EvF X e σ F M r x) (hix : EvF X ix σ F M t.rep kx) (hl : xs.length < 1000000)
    (k : ∀ F2 M2 H2 d2, Same F F2 → SH M0 d0 s d2 F2 M2 H2 vs (put (pt kx x xs)) → WSs X rest D σ H2)
    (hsw : swapsWith e (some (.Subscript a ix q2)) pos.line X.env = pure false := by rfl) :
    WSs X (.Assign [.Subscript a ix q2] e pos :: rest) D σ H := by
  obtain ⟨l, ws, rfl, hM, hA, kk⟩ := h.dic f
  refine wss_cons (ws_of (ps_dput (by omega) (pe_w a) (pe_w ix) (pe_w e) hsw) (he F H (Same.refl _) h.w _ fun F2 H2 v3 s2 w2 hv3 => ho F2 H2 s2 w2 _ fun F3 H3 v2 s3 w3 hv => hix F3 H3 (s2.trans s3) w3 _ fun F4 H4 u s4 w4 hu => by
    have hz : ws.length < sizeLine := Nat.lt_of_lt_of_le (show ws.length < 1000000 by rw [hA.len]; exact hl) (by decide)
    obtain ⟨d2, h2⟩ := kk F4 _ _ _ ((s2.trans s3).trans s4) (w4.put hM) ((hA.up ((s2.trans s3).trans s4)).put (Mono.mono (s3.trans s4) hv3) (t.v hu ▸ hu))
    refine ⟨l, _, hv, ?_, k F4 _ _ d2 ((s2.trans s3).trans s4) h2⟩
    rw [t.v hu]
    exact DPut.k (w4.m _ _ hM) hz))
end
end Y

/-! ### defs' promises by what they compute -/
namespace Y
open PySem PySem.Spec PyProof.Rows L2
/-- where the classes of exceptions stand -/
structure XA where
  noPart : Addr
  noText : Addr
  near : Addr
  noSeam : Addr
  noBarrel : Addr
  noName : Addr
  noSense : Addr
  noRow : Addr
/-- an exception as it is let out: its class, its dict -/
def exR (xa : XA) : Exc → Hp → Value → Option Addr → Prop
  | .noPart, _, c, d => c = .ref xa.noPart ∧ d = none
  | .noText, _, c, d => c = .ref xa.noText ∧ d = none
  | .noBarrel, _, c, d => c = .ref xa.noBarrel ∧ d = none
  | .noName, _, c, d => c = .ref xa.noName ∧ d = none
  | .noRow, _, c, d => c = .ref xa.noRow ∧ d = none
  | .near a b, F, c, d => c = .ref xa.near ∧ ∃ dd u v, d = some dd ∧ F dd = some (.xd [("other", v), ("one", u)]) ∧ t3R iR iR iR F u a ∧ t3R iR iR iR F v b
  | .noSeam s o, F, c, d => c = .ref xa.noSeam ∧ ∃ dd v, d = some dd ∧ F dd = some (.xd [("over", v), ("start", .int s)]) ∧ lR (t3R iR iR iR) F v o
  | .noSense p, F, c, d => c = .ref xa.noSense ∧ ∃ dd, d = some dd ∧ F dd = some (.xd [("place", .int p)])
/-- it gives what stands -/
def FSpV [Lams] {α ρ : Type} (A : AR α) (m : α → Rs ρ) (R : Rep ρ) : Sp := fun vs H Q _ => ∃ F M x, A F vs x ∧ m x ≠ .bad ∧ Own F M H ∧ ∀ F2 H2 v y, Same F F2 → Own F2 M H2 → m x = .ok y → R F2 v y → Q v H2
/-- .. or lets something out -/
def FSpVX [Lams] (xa : XA) {α ρ : Type} (A : AR α) (m : α → Rs ρ) (R : Rep ρ) : Sp := fun vs H Q E => ∃ F M x, A F vs x ∧ m x ≠ .bad ∧ Own F M H ∧ (∀ F2 H2 v y, Same F F2 → Own F2 M H2 → m x = .ok y → R F2 v y → Q v H2) ∧
  ∀ F2 H2 c d e, Same F F2 → Own F2 M H2 → m x = .ex e () → exR xa e F2 c d → E c d H2
/-- it gives something new -/
def FSpU [Lams] {α ρ : Type} (A : AR α) (m : α → Rs ρ) (o : OR ρ) : Sp := fun vs H Q _ => ∃ F M x, A F vs x ∧ m x ≠ .bad ∧ Own F M H ∧
  ∀ F2 H2 R v d y, Same F F2 → Own F2 (jnH M R) H2 → (∀ a, R a ≠ none → M a = none) → m x = .ok y → o d F2 R v y → d.Nodup → Q v H2
def FSpUX [Lams] (xa : XA) {α ρ : Type} (A : AR α) (m : α → Rs ρ) (o : OR ρ) : Sp := fun vs H Q E => ∃ F M x, A F vs x ∧ m x ≠ .bad ∧ Own F M H ∧
  (∀ F2 H2 R v d y, Same F F2 → Own F2 (jnH M R) H2 → (∀ a, R a ≠ none → M a = none) → m x = .ok y → o d F2 R v y → d.Nodup → Q v H2) ∧
  ∀ F2 H2 c d e, Same F F2 → Own F2 M H2 → m x = .ex e () → exR xa e F2 c d → E c d H2
/-- arguments that are one's own among others -/
def weave : List Bool → List V → List V → List V
  | true :: m, us, v :: vs => v :: weave m us vs
  | false :: m, u :: us, vs => u :: weave m us vs
  | _, _, _ => []
/-- it changes what is one's own of its arguments -/
def FSpM [Lams] {γ α ρ : Type} (ms : List Bool) (s : OS γ) (A : AR α) (m : γ → α → Res γ (ρ × γ)) (o : OR ρ) : Sp := fun ws H Q _ => ∃ F M us vs x y d, ws = weave ms us vs ∧ ms.length = ws.length ∧ A F us x ∧ s d F M vs y ∧ d.Nodup ∧ m y x ≠ .bad ∧ Own F M H ∧
  ∀ F2 M2 H2 v z y2 dr d2, Same F F2 → Own F2 M2 H2 → (∀ a, a ∉ d → M a ≠ none → M2 a = M a) → o dr F2 M2 v z → s d2 F2 M2 vs y2 → (dr ++ d2).Nodup → (∀ a ∈ dr ++ d2, a ∈ d ∨ M a = none) → m y x = .ok (z, y2) → Q v H2
def FSpMX [Lams] (xa : XA) {γ α ρ : Type} (ms : List Bool) (s : OS γ) (A : AR α) (m : γ → α → Res γ (ρ × γ)) (o : OR ρ) : Sp := fun ws H Q E => ∃ F M us vs x y d, ws = weave ms us vs ∧ ms.length = ws.length ∧ A F us x ∧ s d F M vs y ∧ d.Nodup ∧ m y x ≠ .bad ∧ Own F M H ∧
  (∀ F2 M2 H2 v z y2 dr d2, Same F F2 → Own F2 M2 H2 → (∀ a, a ∉ d → M a ≠ none → M2 a = M a) → o dr F2 M2 v z → s d2 F2 M2 vs y2 → (dr ++ d2).Nodup → (∀ a ∈ dr ++ d2, a ∈ d ∨ M a = none) → m y x = .ok (z, y2) → Q v H2) ∧
  ∀ F2 M2 H2 c dd e y2 d2, Same F F2 → Own F2 M2 H2 → (∀ a, a ∉ d → M a ≠ none → M2 a = M a) → s d2 F2 M2 vs y2 → d2.Nodup → (∀ a ∈ d2, a ∈ d ∨ M a = none) → m y x = .ex e y2 → exR xa e F2 c dd → E c dd H2
theorem res_cases {δ ρ : Type} {m : Res δ ρ} (h : m ≠ .bad) : (∃ y, m = .ok y) ∨ ∃ e s, m = .ex e s := by
  cases m with
  | ok y => exact .inl ⟨y, rfl⟩
  | ex e s => exact .inr ⟨e, s, rfl⟩
  | bad => exact absurd rfl h
section
variable [Lams] {X : Cx} {σ : L2.St} {F F1 F2 M M0 M1 M2 H H2 : Hp} {d d0 d1 d2 : List Addr} {α β γ ρ : Type} {o : OR ρ} {R : Rep ρ} {s : OS β} {vs us : List V} {v u : V} {y : β}
variable {a b e : Expr} {es : List Expr} {pos p p2 : Pos} {n : Str} {rest : List Stmt} {D : Ends} {k : Nat} {f : Addr} {fd : FuncData} {ps : List Str} {A : AR α} {m : α → Rs ρ} {x : α} {xa : XA} {W : WX}
theorem ev_callV [Inhabited ρ] (G : FnOk X.prog X.w X.K X.mg X.base CX0 k f fd ps (FSpV A m R)) (hr : Room k X.A) (hm : X.mg n = some (.ref f)) (hk : PySem.W.keepIn X.K (.ref f) = true) (hb : Binds X.K fd ps [])
    (ha : EvA X (e :: es) σ F M fun F vs => A F vs x) (hp : (m x).isOk) (hg : Gl X n := by rfl) (hdb : (n == ("__debug__" : Str)) = false := by decide) (he : starEach (e :: es) X.env = (false, eval e X.env) :: starEach es X.env := by rfl) (hpl : (backTo pos (starEach es X.env)).any (·.1) = false := by rfl) :
    EvF X (.Call (.Name n p) (e :: es) [] pos) σ F M R (m x).get :=
  fun F1 H1 s w Q q => we_of (pe_call G hr hg hm hk hb .nil pass0 (pa_w (e :: es)) hdb he hpl) (ha F1 H1 s w _ fun F2 H2 vs s2 w2 hv => by
    show FSpV A m R (vs ++ []) H2 Q E0
    rw [List.append_nil]
    exact ⟨F2, M, x, hv, Res.isOk_ne hp, w2, fun F3 H3 v y s3 w3 h h2 => q F3 H3 v (s2.trans s3) w3 (by rw [h]; exact h2)⟩)
theorem ev_callV0 [Inhabited ρ] {m : Unit → Rs ρ} (G : FnOk X.prog X.w X.K X.mg X.base CX0 k f fd ps (FSpV an m R)) (hr : Room k X.A) (hm : X.mg n = some (.ref f)) (hk : PySem.W.keepIn X.K (.ref f) = true) (hb : Binds X.K fd ps [])
    (hp : (m ()).isOk) (hg : Gl X n := by rfl) (hdb : (n == ("__debug__" : Str)) = false := by decide) : EvF X (.Call (.Name n p) [] [] pos) σ F M R (m ()).get :=
  fun F1 H1 s w Q q => we_of (pe_call0 G hr hg hm hk hb .nil pass0 hdb) (by
    show FSpV an m R ([] ++ []) H1 Q E0
    exact ⟨F1, M, (), rfl, Res.isOk_ne hp, w, fun F3 H3 v y s3 w3 h h2 => q F3 H3 v s3 w3 (by rw [h]; exact h2)⟩)
theorem ev_callU [Inhabited ρ] (G : FnOk X.prog X.w X.K X.mg X.base CX0 k f fd ps (FSpU A m o)) (hr : Room k X.A) (hm : X.mg n = some (.ref f)) (hk : PySem.W.keepIn X.K (.ref f) = true) (hb : Binds X.K fd ps [])
    (ha : EvA X (e :: es) σ F M fun F vs => A F vs x) (hp : (m x).isOk) (hg : Gl X n := by rfl) (hdb : (n == ("__debug__" : Str)) = false := by decide) (he : starEach (e :: es) X.env = (false, eval e X.env) :: starEach es X.env := by rfl) (hpl : (backTo pos (starEach es X.env)).any (·.1) = false := by rfl) :
    EvU X (.Call (.Name n p) (e :: es) [] pos) σ F M o (m x).get :=
  fun F1 H1 s w Q q => we_of (pe_call G hr hg hm hk hb .nil pass0 (pa_w (e :: es)) hdb he hpl) (ha F1 H1 s w _ fun F2 H2 vs s2 w2 hv => by
    show FSpU A m o (vs ++ []) H2 Q E0
    rw [List.append_nil]
    exact ⟨F2, M, x, hv, Res.isOk_ne hp, w2, fun F3 H3 R v d y s3 w3 ap h h2 nd => q F3 H3 R v d (s2.trans s3) w3 ap (by rw [h]; exact h2) nd⟩)
theorem ev_callU0 [Inhabited ρ] {m : Unit → Rs ρ} (G : FnOk X.prog X.w X.K X.mg X.base CX0 k f fd ps (FSpU an m o)) (hr : Room k X.A) (hm : X.mg n = some (.ref f)) (hk : PySem.W.keepIn X.K (.ref f) = true) (hb : Binds X.K fd ps [])
    (hp : (m ()).isOk) (hg : Gl X n := by rfl) (hdb : (n == ("__debug__" : Str)) = false := by decide) : EvU X (.Call (.Name n p) [] [] pos) σ F M o (m ()).get :=
  fun F1 H1 s w Q q => we_of (pe_call0 G hr hg hm hk hb .nil pass0 hdb) (by
    show FSpU an m o ([] ++ []) H1 Q E0
    exact ⟨F1, M, (), rfl, Res.isOk_ne hp, w, fun F3 H3 R v d y s3 w3 ap h h2 nd => q F3 H3 R v d s3 w3 ap (by rw [h]; exact h2) nd⟩)
/-! a def that may let something out: it does not here -/
theorem ev_callVX [Inhabited ρ] (tk : Takes X W) (G : FnOk X.prog X.w X.K X.mg X.base (L2.CX X.prog X.w) k f fd ps (FSpVX xa A m R)) (hr : Room k X.A) (hm : X.mg n = some (.ref f)) (hk : PySem.W.keepIn X.K (.ref f) = true) (hb : Binds X.K fd ps [])
    (ha : EvA X (e :: es) σ F M fun F vs => A F vs x) (hp : (m x).isOk) (hg : Gl X n := by rfl) (hdb : (n == ("__debug__" : Str)) = false := by decide) (he : starEach (e :: es) X.env = (false, eval e X.env) :: starEach es X.env := by rfl) (hpl : (backTo pos (starEach es X.env)).any (·.1) = false := by rfl) :
    EvF X (.Call (.Name n p) (e :: es) [] pos) σ F M R (m x).get :=
  fun F1 H1 s w Q q => we_of (pe_callS G hr hg hm hk hb (fun σ => passAt tk σ) (pa_w (e :: es)) hdb he hpl) (ha F1 H1 s w _ fun F2 H2 vs s2 w2 hv =>
    ⟨F2, M, x, hv, Res.isOk_ne hp, w2, fun F3 H3 v y s3 w3 h h2 => q F3 H3 v (s2.trans s3) w3 (by rw [h]; exact h2), fun F3 H3 c d e s3 w3 h _ => by rw [h] at hp; exact hp.elim⟩)
theorem ev_callUX [Inhabited ρ] (tk : Takes X W) (G : FnOk X.prog X.w X.K X.mg X.base (L2.CX X.prog X.w) k f fd ps (FSpUX xa A m o)) (hr : Room k X.A) (hm : X.mg n = some (.ref f)) (hk : PySem.W.keepIn X.K (.ref f) = true) (hb : Binds X.K fd ps [])
    (ha : EvA X (e :: es) σ F M fun F vs => A F vs x) (hp : (m x).isOk) (hg : Gl X n := by rfl) (hdb : (n == ("__debug__" : Str)) = false := by decide) (he : starEach (e :: es) X.env = (false, eval e X.env) :: starEach es X.env := by rfl) (hpl : (backTo pos (starEach es X.env)).any (·.1) = false := by rfl) :
    EvU X (.Call (.Name n p) (e :: es) [] pos) σ F M o (m x).get :=
  fun F1 H1 s w Q q => we_of (pe_callS G hr hg hm hk hb (fun σ => passAt tk σ) (pa_w (e :: es)) hdb he hpl) (ha F1 H1 s w _ fun F2 H2 vs s2 w2 hv =>
    ⟨F2, M, x, hv, Res.isOk_ne hp, w2, fun F3 H3 R v d y s3 w3 ap h h2 nd => q F3 H3 R v d (s2.trans s3) w3 ap (by rw [h]; exact h2) nd, fun F3 H3 c d e s3 w3 h _ => by rw [h] at hp; exact hp.elim⟩)
/-- what never tells -/
abbrev EvX (X : Cx) (e : Expr) (σ : L2.St) (F M : Hp) : Prop := Ev X e σ F M fun _ _ => False
abbrev EvAX (X : Cx) (es : List Expr) (σ : L2.St) (F M : Hp) : Prop := EvA X es σ F M fun _ _ => False
/-- it does: x -/
theorem ex_callV {ee : Exc} (tk : Takes X W) (G : FnOk X.prog X.w X.K X.mg X.base (L2.CX X.prog X.w) k f fd ps (FSpVX xa A m R)) (hr : Room k X.A) (hm : X.mg n = some (.ref f)) (hk : PySem.W.keepIn X.K (.ref f) = true) (hb : Binds X.K fd ps [])
    (ha : EvA X (e :: es) σ F M fun F vs => A F vs x) (hp : m x = .ex ee ()) (hx : ∀ F2 H2 c d, Same F F2 → Own F2 M H2 → exR xa ee F2 c d → W c d σ H2)
    (hg : Gl X n := by rfl) (hdb : (n == ("__debug__" : Str)) = false := by decide) (he : starEach (e :: es) X.env = (false, eval e X.env) :: starEach es X.env := by rfl) (hpl : (backTo pos (starEach es X.env)).any (·.1) = false := by rfl) : EvX X (.Call (.Name n p) (e :: es) [] pos) σ F M :=
  fun F1 H1 s w Q q => we_of (pe_callS G hr hg hm hk hb (fun σ => passAt tk σ) (pa_w (e :: es)) hdb he hpl) (ha F1 H1 s w _ fun F2 H2 vs s2 w2 hv =>
    ⟨F2, M, x, hv, (fun z => by rw [hp] at z; cases z), w2, (fun F3 H3 v y s3 w3 h h2 => by rw [hp] at h; cases h), fun F3 H3 c d e s3 w3 h hR => by rw [hp] at h; cases h; exact hx F3 H3 c d ((s.trans s2).trans s3) w3 hR⟩)
theorem ex_callU {ee : Exc} (tk : Takes X W) (G : FnOk X.prog X.w X.K X.mg X.base (L2.CX X.prog X.w) k f fd ps (FSpUX xa A m o)) (hr : Room k X.A) (hm : X.mg n = some (.ref f)) (hk : PySem.W.keepIn X.K (.ref f) = true) (hb : Binds X.K fd ps [])
    (ha : EvA X (e :: es) σ F M fun F vs => A F vs x) (hp : m x = .ex ee ()) (hx : ∀ F2 H2 c d, Same F F2 → Own F2 M H2 → exR xa ee F2 c d → W c d σ H2)
    (hg : Gl X n := by rfl) (hdb : (n == ("__debug__" : Str)) = false := by decide) (he : starEach (e :: es) X.env = (false, eval e X.env) :: starEach es X.env := by rfl) (hpl : (backTo pos (starEach es X.env)).any (·.1) = false := by rfl) : EvX X (.Call (.Name n p) (e :: es) [] pos) σ F M :=
  fun F1 H1 s w Q q => we_of (pe_callS G hr hg hm hk hb (fun σ => passAt tk σ) (pa_w (e :: es)) hdb he hpl) (ha F1 H1 s w _ fun F2 H2 vs s2 w2 hv =>
    ⟨F2, M, x, hv, (fun z => by rw [hp] at z; cases z), w2, (fun F3 H3 R v d y s3 w3 ap h h2 => by rw [hp] at h; cases h), fun F3 H3 c d e s3 w3 h hR => by rw [hp] at h; cases h; exact hx F3 H3 c d ((s.trans s2).trans s3) w3 hR⟩)
theorem eax_here (h : EvX X a σ F M) (hs : starEach (a :: es) X.env = (false, eval a X.env) :: starEach es X.env := by rfl) : EvAX X (a :: es) σ F M :=
  fun F1 H1 s w Q q => wa_of (pa_cons (pe_w a) (pa_w es) hs) (h F1 H1 s w _ fun _ _ _ _ _ z => z.elim)
theorem eax_next {Φ : Hp → V → Prop} (ha : Ev X a σ F M Φ) (h : EvAX X es σ F M) (hs : starEach (a :: es) X.env = (false, eval a X.env) :: starEach es X.env := by rfl) : EvAX X (a :: es) σ F M :=
  fun F1 H1 s w Q q => wa_of (pa_cons (pe_w a) (pa_w es) hs) (ha F1 H1 s w _ fun F2 H2 v s2 w2 _ => h F2 H2 (s.trans s2) w2 _ fun _ _ _ _ _ z => z.elim)
theorem ex_tup {j} (h : EvAX X es σ F M) : EvX X (.Tuple es j pos) σ F M := fun F1 H1 s w Q q => we_of (pe_tup (pa_w es)) (h F1 H1 s w _ fun _ _ _ _ _ z => z.elim)
theorem ex_lst (h : EvAX X es σ F M) : EvX X (.List es pos) σ F M := fun F1 H1 s w Q q => we_of (pe_lst (pa_w es)) (h F1 H1 s w _ fun _ _ _ _ _ z => z.elim)
/-- f(.., x, ..), where x never tells -/
theorem ex_args {CXg : CXT} {sp : Sp} (tk : Takes X W) (G : FnOk X.prog X.w X.K X.mg X.base (L2.CX X.prog X.w) k f fd ps sp) (hr : Room k X.A) (hm : X.mg n = some (.ref f)) (hk : PySem.W.keepIn X.K (.ref f) = true) (hb : Binds X.K fd ps [])
    (h : EvAX X (e :: es) σ F M) (hg : Gl X n := by rfl) (hdb : (n == ("__debug__" : Str)) = false := by decide) (he : starEach (e :: es) X.env = (false, eval e X.env) :: starEach es X.env := by rfl) (hpl : (backTo pos (starEach es X.env)).any (·.1) = false := by rfl) : EvX X (.Call (.Name n p) (e :: es) [] pos) σ F M :=
  fun F1 H1 s w Q q => we_of (pe_callS (E := fun σ c d H => W c d σ H) G hr hg hm hk hb (fun σ => passAt tk σ) (pa_w (e :: es)) hdb he hpl) (h F1 H1 s w _ fun _ _ _ _ _ z => z.elim)
theorem ex_args0 {sp : Sp} (G : FnOk X.prog X.w X.K X.mg X.base CX0 k f fd ps sp) (hr : Room k X.A) (hm : X.mg n = some (.ref f)) (hk : PySem.W.keepIn X.K (.ref f) = true) (hb : Binds X.K fd ps [])
    (h : EvAX X (e :: es) σ F M) (hg : Gl X n := by rfl) (hdb : (n == ("__debug__" : Str)) = false := by decide) (he : starEach (e :: es) X.env = (false, eval e X.env) :: starEach es X.env := by rfl) (hpl : (backTo pos (starEach es X.env)).any (·.1) = false := by rfl) : EvX X (.Call (.Name n p) (e :: es) [] pos) σ F M :=
  fun F1 H1 s w Q q => we_of (pe_call G hr hg hm hk hb .nil pass0 (pa_w (e :: es)) hdb he hpl) (h F1 H1 s w _ fun _ _ _ _ _ z => z.elim)
theorem ssx_ret (h : EvX X e σ F M) (w : Own F M H) : WSs X (.Return (some e) pos :: rest) D σ H := ss_ret h w fun _ _ _ _ _ z => z.elim
theorem ssx_set (i : Nat) (h : EvX X e σ F M) (w : Own F M H) (hN : X.N.Nodup) (hi : X.N[i]? = some n := by rfl) (hx : Loc X.env.scope n := by first | exact Or.inl rfl | exact Or.inr rfl) (hs : swapsWith e (some (.Name n p)) pos.line X.env = pure false := by rfl) (hf : X.fn n = true ∨ X.env.scope.names.lookup n = some .local := by first | exact .inl rfl | exact .inr rfl) :
    WSs X (.Assign [.Name n p] e pos :: rest) D σ H := ss_set i h w (fun _ _ _ _ _ z => z.elim) hN hi hx hs hf
theorem ssx_expr (h : EvX X e σ F M) (w : Own F M H) (hsw : swapsWith e none pos.line X.env = pure false := by rfl) : WSs X (.Expr e pos :: rest) D σ H :=
  wss_cons (ws_of (ps_expr (pe_w e) hsw) (h F H (Same.refl _) w _ fun _ _ _ _ _ z => z.elim))
/-- p.append(e), where e never tells -/
theorem ssx_app {l : Addr} {ws : List V} {cpos apos : Pos} (ho : EvV X a σ F M (.ref l)) (hM : M l = some (.lst ws)) (h : EvX X e σ F M) (w : Own F M H)
    (hbase : attributeBase a "append" X.env (eval a X.env) = eval a X.env := by rfl)
    (hfew : ((backTo cpos (starEach [e] X.env)).all (fun x => !x.1) && (backToKw cpos (keywordEach [] X.env)).all (fun x => x.1.isSome)
      && decide ([e].length + ([] : List Keyword).length + (if ([] : List Keyword).isEmpty then 0 else 1) < 30)) = true := by rfl)
    (hline : (apos.endLine == cpos.line) = true := by rfl) (hst : starEach [e] X.env = (false, eval e X.env) :: starEach [] X.env := by rfl) (hplain : (backTo cpos (starEach [] X.env)).any (·.1) = false := by rfl)
    (hsw : swapsWith (.Call (.Attribute a "append" apos) [e] [] cpos) none pos.line X.env = pure false := by rfl) :
    WSs X (.Expr (.Call (.Attribute a "append" apos) [e] [] cpos) pos :: rest) D σ H :=
  wss_cons (ws_of (ps_expr (pe_bm PySem.F.plainAttrs_list PySem.F.slot_list_append PySem.F.type_list_append mt_append (pe_w a) (pa_cons (pe_w e) pa_nil hst) hbase hfew hline hst hplain) hsw)
    (ho F H (Same.refl _) w _ fun F2 H2 v2 s2 w2 hv => by
      subst hv
      exact ⟨.inl ⟨rfl, _, SqL.of (w2.m _ _ hM)⟩, h F2 H2 s2 w2 _ fun _ _ _ _ _ z => z.elim⟩))
/-! ### a call that changes what is one's own: continuations -/
def FocS {β γ : Type} (s : OS γ) (d : List Addr) (F M : Hp) (vs : List V) (so : OS β) (ws : List V) (x : β) (put : β → γ) : Prop :=
  ∃ di rs, d.Perm (di ++ rs) ∧ so di F M ws x ∧ ∀ F' M' di' x', Same F F' → (∀ a ∈ rs, M' a = M a) → so di' F' M' ws x' → ∃ d', d'.Perm (di' ++ rs) ∧ s d' F' M' vs (put x')
omit [Lams] in
theorem focS_one {γ : Type} {s : OS γ} {o : OR α} {z : α} {put : α → γ} (f : Foc s d F M vs o v z put) : FocS s d F M vs (oC o oN) [v] (z, ()) (fun q => put q.1) := by
  obtain ⟨di, rs, p, h, k⟩ := f
  refine ⟨di ++ [], rs, by rw [List.append_nil]; exact p, oC.mk h ⟨rfl, rfl⟩, fun F' M' di' x' e e2 q => ?_⟩
  obtain ⟨d1, d2, rfl, h1, h2⟩ := oC.at q
  obtain ⟨d', p', h'⟩ := k F' M' d1 x'.1 e e2 h1
  refine ⟨d', ?_, h'⟩
  rw [h2.1, List.append_nil]; exact p'
omit [Lams] in
theorem focS_nil {γ : Type} {s : OS γ} [q : OMS s] {z : γ} (h : s d F M vs z) : FocS s d F M vs oN [] () (fun _ => z) :=
  ⟨[], d, .refl _, ⟨rfl, rfl⟩, fun F' M' di' x' e e2 r => ⟨d, by rw [r.1]; exact .refl _, q.fr e2 (q.up (Same.sub e) h)⟩⟩
omit [Lams] in
/-- the first thing and things of the others -/
theorem focS_cons {γ δ : Type} {s : OS γ} {so : OS δ} {o : OR α} {z : α} {y : γ} {w : δ} {ws : List V} {put : δ → γ} (h : oC o s d F M (v :: vs) (z, y)) (k : ∀ d2, s d2 F M vs y → FocS s d2 F M vs so ws w put) : FocS (oC o s) d F M (v :: vs) (oC o so) (v :: ws) (z, w) (fun q => (q.1, put q.2)) := by
  obtain ⟨d1, d2, rfl, h1, h2⟩ := oC.at h
  obtain ⟨di, rs, p, h3, kk⟩ := k d2 h2
  refine ⟨d1 ++ di, rs, by rw [List.append_assoc]; exact p.append_left d1, oC.mk h1 h3, fun F' M' di' x' e e2 q => ?_⟩
  obtain ⟨a1, a2, rfl, h4, h5⟩ := oC.at q
  obtain ⟨d', p', h6⟩ := kk F' M' a2 x'.2 e e2 h5
  exact ⟨a1 ++ d', by rw [List.append_assoc]; exact p'.append_left a1, oC.mk h4 h6⟩
/-- behind the call -/
theorem SH.behind {δ : Type} {s : OS β} {so : OS δ} {ws : List V} {put : δ → β} [os : OMS so] [om : OM o] (h : SH M0 d0 s d F M H vs y) {di rs dr d2 : List Addr} {v : V} {z : ρ} {w2 : δ} (p : d.Perm (di ++ rs))
    (k : ∀ F' M' di' x', Same F F' → (∀ a ∈ rs, M' a = M a) → so di' F' M' ws x' → ∃ d', d'.Perm (di' ++ rs) ∧ s d' F' M' vs (put x')) (ns : ∀ a ∈ d, M a ≠ none) (e : Same F F2) (wo : Own F2 M2 H2) (fr : ∀ a, a ∉ di → M a ≠ none → M2 a = M a) (ho : o dr F2 M2 v z) (hs : so d2 F2 M2 ws w2) (nd : (dr ++ d2).Nodup) (n0 : ∀ a ∈ dr ++ d2, a ∈ di ∨ M a = none) : ∃ d', SH M0 d0 (oC o s) d' F2 M2 H2 (v :: vs) (z, put w2) := by
  have pn := p.nodup_iff.mp h.nd
  have pn2 := List.nodup_append.mp pn
  have rsM : ∀ a ∈ rs, M2 a = M a := fun a ha => fr a (fun q => pn2.2.2 a q a ha rfl) (ns a (p.mem_iff.mpr (List.mem_append_right _ ha)))
  obtain ⟨d', p', h'⟩ := k F2 M2 d2 w2 e rsM hs
  have disj : ∀ a ∈ dr ++ d2, a ∉ rs := fun a ha q => (n0 a ha).elim (fun z => pn2.2.2 a z a q rfl) (fun z => ns a (p.mem_iff.mpr (List.mem_append_right _ q)) z)
  have nd2 := List.nodup_append.mp nd
  refine ⟨dr ++ d', wo, oC.mk ho h', List.nodup_append.mpr ⟨nd2.1, p'.nodup_iff.mpr (List.nodup_append.mpr ⟨nd2.2.1, pn2.2.1, fun a ha b hb q => by subst q; exact disj a (List.mem_append_right _ ha) hb⟩), fun a ha b hb q => ?_⟩, fun a ha => ?_, fun a ha hb => ?_⟩
  · subst q
    rcases List.mem_append.mp (p'.mem_iff.mp hb) with hb | hb
    · exact nd2.2.2 a ha a hb rfl
    · exact disj a (List.mem_append_left _ ha) hb
  · have key : ∀ a, a ∈ di ∨ M a = none → a ∈ d0 ∨ M0 a = none := fun a ha => by
      rcases ha with ha | ha
      · exact h.n0 a (p.mem_iff.mpr (List.mem_append_left _ ha))
      · by_cases c : a ∈ d0
        · exact .inl c
        · right
          cases q : M0 a with
          | none => rfl
          | some o => have := h.sM a c (by rw [q]; exact fun z => nomatch z); rw [ha, q] at this; cases this
    rcases List.mem_append.mp ha with ha | ha
    · exact key a (n0 a (List.mem_append_left _ ha))
    · rcases List.mem_append.mp (p'.mem_iff.mp ha) with ha | ha
      · exact key a (n0 a (List.mem_append_right _ ha))
      · exact h.n0 a (p.mem_iff.mpr (List.mem_append_right _ ha))
  · have e1 := h.sM a ha hb
    rw [← e1]
    refine fr a (fun q => ?_) (by rw [e1]; exact hb)
    exact (h.n0 a (p.mem_iff.mpr (List.mem_append_left _ q))).elim ha fun z => hb z
theorem SH.behindS {δ : Type} {s : OS β} {so : OS δ} {ws : List V} {put : δ → β} [os : OMS so] (h : SH M0 d0 s d F M H vs y) {di rs d2 : List Addr} {w2 : δ} (p : d.Perm (di ++ rs))
    (k : ∀ F' M' di' x', Same F F' → (∀ a ∈ rs, M' a = M a) → so di' F' M' ws x' → ∃ d', d'.Perm (di' ++ rs) ∧ s d' F' M' vs (put x')) (ns : ∀ a ∈ d, M a ≠ none) (e : Same F F2) (wo : Own F2 M2 H2) (fr : ∀ a, a ∉ di → M a ≠ none → M2 a = M a) (hs : so d2 F2 M2 ws w2) (nd : d2.Nodup) (n0 : ∀ a ∈ d2, a ∈ di ∨ M a = none) : ∃ d', SH M0 d0 s d' F2 M2 H2 vs (put w2) := by
  obtain ⟨d', q⟩ := h.behind (o := oF nR) (dr := []) (v := .non) (z := ()) p k ns e wo fr ⟨rfl, rfl⟩ hs nd n0
  exact q.drop
/-- the call, told by its continuation -/
theorem we_callM {δ : Type} [q : OMS s] {so : OS δ} [os : OMS so] {ws : List V} {w : δ} {put : δ → β} {ms : List Bool} {m : δ → α → Res δ (ρ × δ)} [om : OM o] {Q : VK} (G : FnOk X.prog X.w X.K X.mg X.base CX0 k f fd ps (FSpM ms so A m o)) (hr : Room k X.A) (hm : X.mg n = some (.ref f)) (hk : PySem.W.keepIn X.K (.ref f) = true) (hb : Binds X.K fd ps [])
    (h : SH M0 d0 s d F M H vs y) (f' : FocS s d F M vs so ws w put) (ha : EvA X (e :: es) σ F M fun F vs => ∃ us, vs = weave ms us ws ∧ ms.length = vs.length ∧ A F us x) (hp : m w x ≠ .bad)
    (kk : ∀ F2 M2 H2 d2 v z w2, Same F F2 → SH M0 d0 (oC o s) d2 F2 M2 H2 (v :: vs) (z, put w2) → m w x = .ok (z, w2) → Q v H2)
    (hg : Gl X n := by rfl) (hdb : (n == ("__debug__" : Str)) = false := by decide) (he : starEach (e :: es) X.env = (false, eval e X.env) :: starEach es X.env := by rfl) (hpl : (backTo pos (starEach es X.env)).any (·.1) = false := by rfl) :
    WE X (.Call (.Name n p) (e :: es) [] pos) σ H Q :=
  we_of (pe_call G hr hg hm hk hb .nil pass0 (pa_w (e :: es)) hdb he hpl) (ha F H (Same.refl _) h.w _ fun F2 H2 vs2 s2 w2 ⟨us, e1, e2, e3⟩ => by
    show FSpM ms so A m o (vs2 ++ []) H2 Q E0
    rw [List.append_nil]
    obtain ⟨di, rs, p, h3, k3⟩ := f'
    have pn := List.nodup_append.mp (p.nodup_iff.mp h.nd)
    refine ⟨F2, M, us, ws, x, w, di, e1, e2, e3, os.up (Same.sub s2) h3, pn.1, hp, w2, fun F3 M3 H3 v z y2 dr d2 s3 w3 fr ho hs nd n0 hme => ?_⟩
    obtain ⟨d', q'⟩ := (h.up s2 w2).behind p (fun F' M' di' x' e => k3 F' M' di' x' (s2.trans e)) (fun a ha => q.dm h.g a ha) s3 w3 fr ho hs nd n0
    exact kk F3 M3 H3 d' v z y2 (s2.trans s3) q' hme)
theorem we_callMX {δ : Type} [q : OMS s] {so : OS δ} [os : OMS so] {ws : List V} {w : δ} {put : δ → β} {ms : List Bool} {m : δ → α → Res δ (ρ × δ)} [om : OM o] {Q : VK} (tk : Takes X W) (G : FnOk X.prog X.w X.K X.mg X.base (L2.CX X.prog X.w) k f fd ps (FSpMX xa ms so A m o)) (hr : Room k X.A) (hm : X.mg n = some (.ref f)) (hk : PySem.W.keepIn X.K (.ref f) = true) (hb : Binds X.K fd ps [])
    (h : SH M0 d0 s d F M H vs y) (f' : FocS s d F M vs so ws w put) (ha : EvA X (e :: es) σ F M fun F vs => ∃ us, vs = weave ms us ws ∧ ms.length = vs.length ∧ A F us x) (hp : m w x ≠ .bad)
    (kk : ∀ F2 M2 H2 d2 v z w2, Same F F2 → SH M0 d0 (oC o s) d2 F2 M2 H2 (v :: vs) (z, put w2) → m w x = .ok (z, w2) → Q v H2)
    (kx : ∀ F2 M2 H2 d2 c dd ee w2, Same F F2 → SH M0 d0 s d2 F2 M2 H2 vs (put w2) → m w x = .ex ee w2 → exR xa ee F2 c dd → W c dd σ H2)
    (hg : Gl X n := by rfl) (hdb : (n == ("__debug__" : Str)) = false := by decide) (he : starEach (e :: es) X.env = (false, eval e X.env) :: starEach es X.env := by rfl) (hpl : (backTo pos (starEach es X.env)).any (·.1) = false := by rfl) :
    WE X (.Call (.Name n p) (e :: es) [] pos) σ H Q :=
  we_of (pe_callS G hr hg hm hk hb (fun σ => passAt tk σ) (pa_w (e :: es)) hdb he hpl) (ha F H (Same.refl _) h.w _ fun F2 H2 vs2 s2 w2 ⟨us, e1, e2, e3⟩ => by
    obtain ⟨di, rs, p, h3, k3⟩ := f'
    have pn := List.nodup_append.mp (p.nodup_iff.mp h.nd)
    refine ⟨F2, M, us, ws, x, w, di, e1, e2, e3, os.up (Same.sub s2) h3, pn.1, hp, w2, fun F3 M3 H3 v z y2 dr d2 s3 w3 fr ho hs nd n0 hme => ?_, fun F3 M3 H3 c dd ee y2 d2 s3 w3 fr hs nd n0 hme hR => ?_⟩
    · obtain ⟨d', q'⟩ := (h.up s2 w2).behind p (fun F' M' di' x' e => k3 F' M' di' x' (s2.trans e)) (fun a ha => q.dm h.g a ha) s3 w3 fr ho hs nd n0
      exact kk F3 M3 H3 d' v z y2 (s2.trans s3) q' hme
    · obtain ⟨d', q'⟩ := (h.up s2 w2).behindS p (fun F' M' di' x' e => k3 F' M' di' x' (s2.trans e)) (fun a ha => q.dm h.g a ha) s3 w3 fr hs nd n0
      exact kx F3 M3 H3 d' c dd ee y2 (s2.trans s3) q' hme hR)
/-! statements by continuations -/
omit [Lams] in
theorem ssw_set (i : Nat) (h : WE X e σ H fun v H2 => WSs X rest D (σ.set i (some v)) H2) (hN : X.N.Nodup) (hi : X.N[i]? = some n := by rfl) (hx : Loc X.env.scope n := by first | exact Or.inl rfl | exact Or.inr rfl) (hs : swapsWith e (some (.Name n p)) pos.line X.env = pure false := by rfl) (hf : X.fn n = true ∨ X.env.scope.names.lookup n = some .local := by first | exact .inl rfl | exact .inr rfl) : WSs X (.Assign [.Name n p] e pos :: rest) D σ H :=
  wss_cons (ws_of (ps_set hN hi hx (pe_w e) hs hf) h)
omit [Lams] in
theorem ssw_expr (h : WE X e σ H fun _ H2 => WSs X rest D σ H2) (hsw : swapsWith e none pos.line X.env = pure false := by rfl) : WSs X (.Expr e pos :: rest) D σ H := wss_cons (ws_of (ps_expr (pe_w e) hsw) h)
omit [Lams] in
theorem ssw_ret (h : WE X e σ H D.rt) : WSs X (.Return (some e) pos :: rest) D σ H := wss_cons (ws_of (ps_ret (pe_w e)) h)
omit [Lams] in
theorem ssw_if {th el : List Stmt} (h : WT X a σ H fun k H2 => (k = true → WSs X th (thn X rest D) σ H2) ∧ (k = false → WSs X el (thn X rest D) σ H2)) : WSs X (.If a th el pos :: rest) D σ H :=
  wss_cons (ws_of (ps_if (pt_w a) (pss_w th) (pss_w el)) (by
    intro pins s I
    refine wpAny_mono (h pins s I) (fun k s' hk => ?_) fun e s' he => he
    obtain ⟨H', J, q⟩ := hk
    refine ⟨H', J, ?_⟩
    cases k with
    | true => rw [if_pos rfl]; exact q.1 rfl
    | false => rw [if_neg Bool.false_ne_true]; exact q.2 rfl))
omit [Lams] in
theorem wt_val {Q : Bool → Hp → Prop} (h : WE X e σ H fun v H2 => ∃ b, v = .bl b ∧ Q b H2) (he : ∀ whole, isTrue e X.env whole = (do let v ← whole; standAt e.pos; holding [v] (truthy v)) := by intro _; rfl) : WT X e σ H Q := wt_of (pt_val (pe_w e) he) h
omit [Lams] in
theorem wt_not {Q : Bool → Hp → Prop} (h : WT X a σ H fun k H2 => Q (!k) H2) : WT X (.UnaryOp .Not a pos) σ H Q := wt_of (pt_not (pt_w a)) h
theorem wt_bx {Q : Bool → Hp → Prop} {kb : Bool} (h : Bx X a σ F M kb) (w : Own F M H) (k : ∀ F2 H2, Same F F2 → Own F2 M H2 → Q kb H2) : WT X a σ H Q := h.2 F H (Same.refl _) w Q k
end
end Y

/-! ### one's own within one's own; what is looked at for a while as if it stood -/
namespace Y
open PySem PySem.Spec PyProof.Rows L2
section
variable [Lams] {X : Cx} {σ : L2.St} {F F1 F2 M M0 M1 M2 R H H2 : Hp} {d d0 d1 d2 : List Addr} {α β γ : Type} {o : OR α} {o2 : OR β} {s : OS γ} {vs us : List V} {v u : V} {x : α} {y : β} {z : γ} {r : Rep α} {k : Bool}
variable {a b e : Expr} {es : List Expr} {pos p p2 : Pos} {n : Str} {rest : List Stmt} {D : Ends}
/-! for a while -/
omit [Lams] in
theorem same_addF (e : Same F F1) : Same (addF F M d) (addF F1 M d) := fun a o h => by
  by_cases q : a ∈ d
  · rw [addF_in q] at h ⊢; exact h
  · rw [addF_out q] at h ⊢; exact e _ _ h
theorem Own.warmD (w : Own F1 M H) (w2 : Own F2 (delD M d) H2) (e : Same (addF F1 M d) F2) (hd : ∀ a ∈ d, M a ≠ none) : Own F1 M H2 :=
  ⟨(w.sameAdd hd).trans (e.trans w2.f), fun a o h => by
    by_cases q : a ∈ d
    · exact w2.f _ _ (e _ _ (by rw [addF_in q]; exact h))
    · exact w2.m _ _ (by rw [delD_out q]; exact h), w.d, w.t, w2.b, w.u⟩
theorem Ev.cool {q : Rep β} {y : β} [m : OM o] [c : OZ o r] [f : Flat q] (hO : o d F M v x) (h : ∀ F', Sub F F' → r F' v x → EvF X e σ F' (delD M d) q y) : EvF X e σ F M q y := fun F1 H1 s1 w Q k => by
  have hd := m.dm hO
  have h1 := m.up (Same.sub s1) hO
  have e1 := w.sameAdd hd
  have hr := c.fz (F' := addF F1 M d) (Same.sub e1) (fun a ha => addF_in ha) h1
  exact h (addF F1 M d) (Same.sub (s1.trans e1)) hr (addF F1 M d) H1 (Same.refl _) w.fzD Q fun F2 H2 v s2 w2 hv => k F1 H2 v (Same.refl _) (w.warmD w2 s2 hd) (f.fl hv)
theorem Bx.cool [m : OM o] [c : OZ o r] (hO : o d F M v x) (h : ∀ F', Sub F F' → r F' v x → Bx X e σ F' (delD M d) k) : Bx X e σ F M k :=
  ⟨Ev.cool hO fun F' s1 h2 => (h F' s1 h2).1, fun F1 H1 s1 w Q kk => by
    have hd := m.dm hO
    have h1 := m.up (Same.sub s1) hO
    have e1 := w.sameAdd hd
    have hr := c.fz (F' := addF F1 M d) (Same.sub e1) (fun a ha => addF_in ha) h1
    exact (h (addF F1 M d) (Same.sub (s1.trans e1)) hr).2 (addF F1 M d) H1 (Same.refl _) w.fzD Q fun F2 H2 s2 w2 => kk F1 H2 (Same.refl _) (w.warmD w2 s2 hd)⟩
/-- what leans on tuples alone, but for its own -/
class ONL {α : Type} (o : OR α) : Prop where
  nl : ∀ {d : List Addr} {F F' M : Hp} {v : V} {x : α}, (∀ b vs, F b = some (.tup vs) → F' b = some (.tup vs)) → o d F M v x → o d F' M v x
instance {α : Type} {r : Rep α} [f : NoLst r] : ONL (oF r) := ⟨fun k h => ⟨h.1, f.nl k h.2⟩⟩
omit [Lams] in
theorem AO.nl [f : ONL o] {F F' M : Hp} (k : ∀ b vs, F b = some (.tup vs) → F' b = some (.tup vs)) : ∀ {ds : List Addr} {vs : List V} {xs : List α}, AO o F M ds vs xs → AO o F' M ds vs xs
  | _, _, _, .nil => .nil
  | _, _, _, .cons h t => .cons (f.nl k h) (t.nl k)
instance [f : ONL o] : ONL (oL o) := ⟨fun k h => let ⟨l, vs, ds, e1, e2, e3, e4⟩ := h; ⟨l, vs, ds, e1, e2, e3, e4.nl k⟩⟩
instance [f : ONL o] [g : ONL o2] : ONL (oT2 o o2) := ⟨fun k h => let ⟨a, u, w, d1, d2, e1, e2, e3, h1, h2⟩ := h; ⟨a, u, w, d1, d2, e1, k _ _ e2, e3, f.nl k h1, g.nl k h2⟩⟩
instance [f : ONL o] [g : ONL o2] : ONL (oH2 o o2) := ⟨fun k h => let ⟨a, u, w, d1, d2, e1, e2, e3, h1, h2⟩ := h; ⟨a, u, w, d1, d2, e1, e2, e3, f.nl k h1, g.nl k h2⟩⟩
theorem EvU.cool [m : OM o] [c : OZ o r] [m2 : OM o2] [f : ONL o2] (hO : o d F M v x) (h : ∀ F', Sub F F' → r F' v x → EvU X e σ F' (delD M d) o2 y) : EvU X e σ F M o2 y := fun F1 H1 s1 w Q k => by
  have hd := m.dm hO
  have h1 := m.up (Same.sub s1) hO
  have e1 := w.sameAdd hd
  have hr := c.fz (F' := addF F1 M d) (Same.sub e1) (fun a ha => addF_in ha) h1
  refine h (addF F1 M d) (Same.sub (s1.trans e1)) hr (addF F1 M d) H1 (Same.refl _) w.fzD Q fun F2 H2 R u d2 s2 w2 ap hq nd => ?_
  -- what is not of d stands
  have inF : ∀ a ∈ d, F2 a = M a := fun a ha => by
    obtain ⟨q, hq⟩ := Option.ne_none_iff_exists'.mp (hd a ha)
    rw [hq]; exact s2 _ _ (by rw [addF_in ha]; exact hq)
  have noR : ∀ a ∈ d, R a = none := fun a ha => by
    cases q : R a with
    | none => rfl
    | some o' =>
      obtain ⟨q2, hq2⟩ := Option.ne_none_iff_exists'.mp (hd a ha)
      have := w2.d a o' (jnH_in q)
      rw [inF a ha, hq2] at this; cases this
  refine k (delD F2 d) H2 R u d2 (fun a o' h => ?_) ⟨fun a o' h => ?_, fun a o' h => ?_, fun a o' h => ?_, fun a o' h => ?_, w2.b, fun a o' h => ?_⟩ (fun a ha => ?_) (f.nl (fun b ws hb => ?_) hq) nd
  · have ne : a ∉ d := fun q => by
      obtain ⟨q2, hq2⟩ := Option.ne_none_iff_exists'.mp (hd a q)
      rw [w.d a q2 hq2] at h; cases h
    rw [delD_out ne]; exact s2 _ _ (by rw [addF_out ne]; exact h)
  · by_cases q : a ∈ d
    · rw [delD_in q] at h; cases h
    · rw [delD_out q] at h; exact w2.f _ _ h
  · by_cases q : a ∈ d
    · rw [jnH_out (noR a q)] at h; exact w2.f _ _ ((inF a q).trans h)
    · refine w2.m a o' ?_
      cases q2 : R a with
      | some o3 => rw [jnH_in q2] at h ⊢; exact h
      | none => rw [jnH_out q2] at h ⊢; rw [delD_out q]; exact h
  · by_cases q : a ∈ d
    · exact delD_in q
    · rw [delD_out q]
      refine w2.d a o' ?_
      cases q2 : R a with
      | some o3 => rw [jnH_in q2] at h ⊢; exact h
      | none => rw [jnH_out q2] at h ⊢; rw [delD_out q]; exact h
  · cases q2 : R a with
    | some o3 => rw [jnH_in q2] at h; cases h; exact w2.t a _ (jnH_in q2)
    | none => rw [jnH_out q2] at h; exact w.t a _ h
  · by_cases q : a ∈ d
    · rw [delD_in q] at h; cases h
    · rw [delD_out q] at h; exact w2.u a o' h
  · by_cases q : a ∈ d
    · exact absurd (noR a q) ha
    · have := ap a ha; rw [delD_out q] at this; exact this
  · have ne : b ∉ d := fun q => by
      have h1 := inF b q
      rw [hb] at h1
      have h3 := w.t b _ h1.symm
      cases h3
    rw [delD_out ne]; exact hb
/-! ### making what is one's own within -/
omit [Lams] in
/-- something new, of more than one part -/
theorem jnH_jnH {R1 R2 : Hp} : jnH (jnH M R1) R2 = jnH M (jnH R1 R2) := by
  funext a; unfold jnH; cases R2 a <;> rfl
omit [Lams] in
theorem jnH_none : jnH M (fun _ => none) = M := rfl
theorem eu_F [mm : Mono r] (h : EvF X e σ F M r x) : EvU X e σ F M (oF r) x := fun F1 H1 s1 w Q q => h F1 H1 s1 w Q fun F2 H2 v s2 w2 hv => q F2 H2 (fun _ => none) v [] s2 w2 (fun a ha => absurd rfl ha) ⟨rfl, hv⟩ List.nodup_nil
/-- an expression of one's own: the same, whatever else is one's own -/
def EuA (X : Cx) (es : List Expr) (σ : L2.St) (F M : Hp) {γ : Type} (s : OS γ) (x : γ) : Prop :=
  ∀ F1 M1 H1, Same F F1 → Same M M1 → Own F1 M1 H1 → ∀ Q : List V → Hp → Prop, (∀ F2 H2 R vs d, Same F1 F2 → Own F2 (jnH M1 R) H2 → (∀ a, R a ≠ none → M1 a = none) → s d F2 R vs x → d.Nodup → Q vs H2) → WA X es σ H1 Q
theorem eua_nil : EuA X [] σ F M oN () := fun F1 M1 H1 s1 sm w Q q => wa_of pa_nil (q F1 H1 (fun _ => none) [] [] (Same.refl _) w (fun a ha => absurd rfl ha) ⟨rfl, rfl⟩ List.nodup_nil)
theorem eua_cons [m : OM o] [m2 : OMS s] (ha : ∀ M', Same M M' → EvU X a σ F M' o x) (h : EuA X es σ F M s z) (hs : starEach (a :: es) X.env = (false, eval a X.env) :: starEach es X.env := by rfl) : EuA X (a :: es) σ F M (oC o s) (x, z) :=
  fun F1 M1 H1 s1 sm w Q q => wa_of (pa_cons (pe_w a) (pa_w es) hs) (ha M1 sm F1 H1 s1 w _ fun F2 H2 R1 v d1 s2 w2 ap1 h1 n1 => by
    have smj : Same M1 (jnH M1 R1) := fun a o h => by
      rw [jnH_out ?_]
      · exact h
      · cases q : R1 a with
        | none => rfl
        | some o => rw [ap1 a (by rw [q]; exact fun z => nomatch z)] at h; cases h
    refine h F2 (jnH M1 R1) H2 (s1.trans s2) (sm.trans smj) w2 _ fun F3 H3 R2 vs d2 s3 w3 ap2 h2 n2 => ?_
    have dis : ∀ a, R2 a ≠ none → R1 a = none := fun a ha => by
      have := ap2 a ha
      unfold jnH at this
      cases q : R1 a with
      | none => rfl
      | some o => rw [q] at this; cases this
    refine q F3 H3 (jnH R1 R2) (v :: vs) (d1 ++ d2) (s2.trans s3) (by rw [← jnH_jnH]; exact w3) (fun a ha => ?_) (oC.mk (m.fr (fun a ha => ?_) (m.up (Same.sub s3) h1)) (m2.fr (fun a ha => ?_) h2)) (List.nodup_append.mpr ⟨n1, n2, fun a ha b hb e => ?_⟩)
    · cases q2 : R2 a with
      | some o =>
        have h3 := ap2 a (by rw [q2]; exact fun z => nomatch z)
        rw [jnH_out (dis a (by rw [q2]; exact fun z => nomatch z))] at h3; exact h3
      | none => rw [jnH_out q2] at ha; exact ap1 a ha
    · refine jnH_out ?_
      cases q2 : R2 a with
      | none => rfl
      | some o => exact absurd (dis a (by rw [q2]; exact fun z => nomatch z)) (m.dm h1 a ha)
    · obtain ⟨q2, hq2⟩ := Option.ne_none_iff_exists'.mp (m2.dm h2 a ha)
      rw [jnH_in hq2, hq2]
    · subst e; exact m.dm h1 a ha (dis a (m2.dm h2 a hb)))
theorem eu_t2 {j} [m : OM o] [m2 : OM o2] (h : EuA X [a, b] σ F M (oC o (oC o2 oN)) (x, y, ())) : EvU X (.Tuple [a, b] j pos) σ F M (oT2 o o2) (x, y) :=
  fun F1 H1 s1 w Q q => we_of (pe_tup (pa_w [a, b])) (h F1 M H1 s1 (Same.refl _) w _ fun F2 H2 R ws d s2 w2 ap hq nd => by
    obtain ⟨v, us, d1, d2, rfl, rfl, h1, u, us2, d3, d4, rfl, rfl, h2, h3⟩ := hq
    obtain ⟨rfl, rfl⟩ := h3
    refine ⟨small_of (by simp), fun p hp => ?_⟩
    have hf : F2 p = none := w2.noF hp
    have sn : Same F2 (upd F2 p (.tup [v, u])) := same_new hf
    exact q _ _ R _ (d1 ++ (d3 ++ [])) (s2.trans sn) (w2.newF hp) ap ⟨p, v, u, d1, d3, rfl, upd_same, by simp, m.up (Same.sub sn) h1, m2.up (Same.sub sn) h2⟩ nd)
theorem eu_h2 [m : OM o] [m2 : OM o2] (h : EuA X [a, b] σ F M (oC o (oC o2 oN)) (x, y, ())) : EvU X (.List [a, b] pos) σ F M (oH2 o o2) (x, y) :=
  fun F1 H1 s1 w Q q => we_of (pe_lst (pa_w [a, b])) (h F1 M H1 s1 (Same.refl _) w _ fun F2 H2 R ws d s2 w2 ap hq nd => by
    obtain ⟨v, us, d1, d2, rfl, rfl, h1, u, us2, d3, d4, rfl, rfl, h2, h3⟩ := hq
    obtain ⟨rfl, rfl⟩ := h3
    refine ⟨small_of (by simp), fun p hp => ?_⟩
    have hR : R p = none := by
      cases q : R p with
      | none => rfl
      | some o => have := w2.noM hp; rw [jnH_in q] at this; cases this
    have ej : jnH M (upd R p (.lst [v, u])) = upd (jnH M R) p (.lst [v, u]) := by
      funext a
      by_cases z : a = p
      · subst z; rw [upd_same]; exact jnH_in upd_same
      · rw [upd_ne z]
        cases q : R a with
        | some o => rw [jnH_in (by rw [upd_ne z]; exact q), jnH_in q]
        | none => rw [jnH_out (by rw [upd_ne z]; exact q), jnH_out q]
    have dm : ∀ a ∈ d1 ++ (d3 ++ []), a ≠ p := fun a ha z => by
      subst z
      rcases List.mem_append.mp ha with ha | ha
      · exact m.dm h1 a ha hR
      · rw [List.append_nil] at ha; exact m2.dm h2 a ha hR
    refine q F2 _ (upd R p (.lst [v, u])) _ (p :: (d1 ++ d3)) s2 (by rw [ej]; exact w2.newM hp) (fun a ha => ?_) ⟨p, v, u, d1, d3, rfl, upd_same, rfl, m.fr (fun a ha => upd_ne (dm a (by simp [ha]))) h1, m2.fr (fun a ha => upd_ne (dm a (by simp [ha]))) h2⟩ (List.nodup_cons.mpr ⟨fun z => dm p (by simpa using z) rfl, by simpa using nd⟩)
    by_cases z : a = p
    · subst z; have := w2.noM hp; rw [jnH_out hR] at this; exact this
    · rw [upd_ne z] at ha; exact ap a ha)
/-- p.append(e), e something new of one's own -/
theorem sh_appU {a : Expr} {put : List α → γ} {xs : List α} {cpos apos : Pos} [m : OM o] [q : OMS s] (h : SH M0 d0 s d F M H vs z) (f : Foc s d F M vs (oL o) v xs put) (ho : EvV X a σ F M v) (he : EvU X e σ F M o x) (hz : xs.length < 1000000)
    (k : ∀ F2 M2 H2 d2, Same F F2 → SH M0 d0 s d2 F2 M2 H2 vs (put (xs ++ [x])) → WSs X rest D σ H2)
    (hbase : attributeBase a "append" X.env (eval a X.env) = eval a X.env := by rfl)
    (hfew : ((backTo cpos (starEach [e] X.env)).all (fun x => !x.1) && (backToKw cpos (keywordEach [] X.env)).all (fun x => x.1.isSome)
      && decide ([e].length + ([] : List Keyword).length + (if ([] : List Keyword).isEmpty then 0 else 1) < 30)) = true := by rfl)
    (hline : (apos.endLine == cpos.line) = true := by rfl) (hst : starEach [e] X.env = (false, eval e X.env) :: starEach [] X.env := by rfl) (hplain : (backTo cpos (starEach [] X.env)).any (·.1) = false := by rfl)
    (hsw : swapsWith (.Call (.Attribute a "append" apos) [e] [] cpos) none pos.line X.env = pure false := by rfl) :
    WSs X (.Expr (.Call (.Attribute a "append" apos) [e] [] cpos) pos :: rest) D σ H := by
  obtain ⟨di, rs, p, ⟨l, ws, ds, rfl, rfl, hM, hA⟩, kk⟩ := f
  have hn := nodup_hd p h.nd
  refine wss_cons (ws_of (ps_expr (pe_bm PySem.F.plainAttrs_list PySem.F.slot_list_append PySem.F.type_list_append mt_append (pe_w a) (pa_cons (pe_w e) pa_nil hst) hbase hfew hline hst hplain) hsw)
    (ho F H (Same.refl _) h.w _ fun F2 H2 v2 s2 w2 hv => by
      subst hv
      refine ⟨.inl ⟨rfl, _, SqL.of (w2.m _ _ hM)⟩, he F2 H2 s2 w2 _ fun F3 H3 R v3 d3 s3 w3 ap hq nd => ?_⟩
      have hl : R l = none := by
        cases q : R l with
        | none => rfl
        | some o => have := ap l (by rw [q]; exact fun z => nomatch z); rw [hM] at this; cases this
      have hMj : jnH M R l = some (.lst ws) := by rw [jnH_out hl]; exact hM
      refine ⟨l, ws, v3, rfl, rfl, w3.m _ _ hMj, Nat.lt_of_lt_of_le (by rw [hA.len]; exact hz) (by decide), ?_⟩
      have hd : ∀ a ∈ d, R a = none := fun a ha => by
        cases q2 : R a with
        | none => rfl
        | some o => exact absurd (ap a (by rw [q2]; exact fun z => nomatch z)) (q.dm h.g a ha)
      have d3l : ∀ a ∈ d3, a ≠ l ∧ a ∉ d := fun a ha => ⟨fun z => by subst z; exact m.dm hq a ha hl, fun z => m.dm hq a ha (hd a z)⟩
      have sd : ∀ a ∈ ds, a ≠ l := fun a ha z => by
        subst z
        have := p.nodup_iff.mp h.nd
        rw [List.cons_append, List.nodup_cons] at this
        exact this.1 (List.mem_append_left _ ha)
      have same_d : ∀ a ∈ d, a ≠ l → upd (jnH M R) l (.lst (ws ++ [v3])) a = M a := fun a ha hne => by rw [upd_ne hne, jnH_out (hd a ha)]
      have same_3 : ∀ a ∈ d3, upd (jnH M R) l (.lst (ws ++ [v3])) a = R a := fun a ha => by
        rw [upd_ne (d3l a ha).1]
        obtain ⟨q2, hq2⟩ := Option.ne_none_iff_exists'.mp (m.dm hq a ha)
        rw [jnH_in hq2, hq2]
      obtain ⟨d', p', h'⟩ := kk F3 (upd (jnH M R) l (.lst (ws ++ [v3]))) (l :: (ds ++ d3)) (xs ++ [x]) (s2.trans s3) (fun a ha => same_d a (p.mem_iff.mpr (List.mem_append_right _ ha)) fun z => hn.2 (z ▸ ha))
        ⟨l, _, _, rfl, rfl, upd_same, (AO.fr (fun a ha => same_d a (p.mem_iff.mpr (by simp [ha])) (sd a ha)) (hA.up (Same.sub (s2.trans s3)))).push (m.fr same_3 hq)⟩
      have pn := List.nodup_append.mp (p.nodup_iff.mp h.nd)
      have pc := List.nodup_cons.mp pn.1
      refine k F3 _ _ d' (s2.trans s3) ⟨w3.put hMj, h', p'.nodup_iff.mpr (List.nodup_append.mpr ⟨List.nodup_cons.mpr ⟨fun z => ?_, List.nodup_append.mpr ⟨pc.2, nd, fun a ha b hb z => ?_⟩⟩, pn.2.1, fun a ha b hb z => ?_⟩), fun a ha => ?_, fun a ha hb => ?_⟩
      · rcases List.mem_append.mp z with z | z
        · exact pc.1 z
        · exact (d3l l z).1 rfl
      · subst z; exact (d3l a hb).2 (p.mem_iff.mpr (by simp [ha]))
      · subst z
        rcases List.mem_cons.mp ha with rfl | ha
        · exact hn.2 hb
        · rcases List.mem_append.mp ha with ha | ha
          · exact pn.2.2 a (List.mem_cons_of_mem _ ha) a hb rfl
          · exact (d3l a ha).2 (p.mem_iff.mpr (List.mem_append_right _ hb))
      · have : a ∈ d ∨ a ∈ d3 := by
          have := p'.mem_iff.mp ha
          simp only [List.mem_append, List.mem_cons] at this
          rcases this with (rfl | h1 | h1) | h1
          · exact .inl hn.1
          · exact .inl (p.mem_iff.mpr (by simp [h1]))
          · exact .inr h1
          · exact .inl (p.mem_iff.mpr (by simp [h1]))
        rcases this with h1 | h1
        · exact h.n0 a h1
        · by_cases c : a ∈ d0
          · exact .inl c
          · right
            cases q2 : M0 a with
            | none => rfl
            | some o =>
              have e1 := h.sM a c (by rw [q2]; exact fun z => nomatch z)
              rw [ap a (m.dm hq a h1), q2] at e1; cases e1
      · have e1 := h.sM a ha hb
        have ne : a ≠ l := fun z => by subst z; exact (h.n0 _ hn.1).elim ha fun z => hb z
        rw [upd_ne ne, jnH_out ?_]
        · exact e1
        · cases q2 : R a with
          | none => rfl
          | some o => rw [← e1] at hb; exact absurd (ap a (by rw [q2]; exact fun z => nomatch z)) hb))
end
end Y

/-! ### odds for the printed walks -/
namespace Y
open PySem PySem.Spec PyProof.Rows L2
theorem filter_tt {α : Type} {xs : List α} : xs.filter (fun _ => true) = xs := List.filter_eq_self.mpr fun _ _ => rfl
theorem lcT_of {α β : Type} {F : Hp} {r : Rep β} {vs : List V} {xs : List α} {f : α → β} (h : A2 (r F) vs ((xs.filter (fun _ => true)).map f)) : A2 (r F) vs (xs.map f) := by rw [filter_tt] at h; exact h
theorem gI_at {α : Type} [Inhabited α] {xs : List α} {i : Int} (h : -(xs.length : Int) ≤ i ∧ i < xs.length) : ∃ j, ixN xs.length i = some j ∧ xs[j]? = some (gI xs i) := by
  obtain ⟨j, hj, hl⟩ := ixN_some h
  refine ⟨j, hj, ?_⟩
  unfold gI atI
  rw [hj, Option.bind_some, List.getElem?_eq_getElem hl]
  rfl
theorem atI_of {α β : Type} {ws : List α} {xs : List β} {i : Int} {j : Nat} {u : α} (hl : ws.length = xs.length) (hj : ixN xs.length i = some j) (hu : ws[j]? = some u) : atI ws i = some u := by
  unfold atI; rw [hl, hj]; exact hu
theorem setI_at {α : Type} {xs : List α} {i : Int} {j : Nat} {x : α} (hj : ixN xs.length i = some j) : setI xs i x = xs.set j x := by
  unfold setI
  congr 1
  unfold ixN at hj
  by_cases c : 0 ≤ i
  · rw [if_pos c] at hj
    split at hj
    · have := Option.some.inj hj; rw [if_neg (by omega)]; exact this
    · cases hj
  · rw [if_neg c] at hj
    split at hj
    · have := Option.some.inj hj; rw [if_pos (by omega)]; exact this
    · cases hj
theorem foc_ixI {γ α : Type} [Inhabited α] {o : OR α} [m : OM o] {s : OS γ} {d : List Addr} {F M : Hp} {vs : List V} {v : V} {xs : List α} {i : Int} {put : List α → γ} (f : Foc s d F M vs (oL o) v xs put) (hi : -(xs.length : Int) ≤ i ∧ i < xs.length) :
    ∃ l ws u, v = .ref l ∧ M l = some (.lst ws) ∧ atI ws i = some u ∧ Foc s d F M vs o u (gI xs i) (fun x' => put (setI xs i x')) := by
  obtain ⟨j, ej, hj⟩ := gI_at hi
  obtain ⟨l, ws, u, e, hM, hl, hu, f2⟩ := foc_ix f hj
  refine ⟨l, ws, u, e, hM, atI_of hl ej hu, ?_⟩
  have e : (fun x' => put (setI xs i x')) = fun x' => put (xs.set j x') := funext fun x' => by rw [setI_at ej]
  rw [e]; exact f2
/-! unlike things, more than three -/
abbrev RL (β : Type) := Hp → List V → β → Prop
class MonoL {β : Type} (s : RL β) : Prop where
  sub : ∀ {F F' : Hp} {vs : List V} {x : β}, Sub F F' → s F vs x → s F' vs x
def rO {α : Type} (r : Rep α) : RL α := fun F vs x => ∃ v, vs = [v] ∧ r F v x
def rC {α β : Type} (r : Rep α) (s : RL β) : RL (α × β) := fun F vs x => ∃ v us, vs = v :: us ∧ r F v x.1 ∧ s F us x.2
def tnR {β : Type} (s : RL β) : Rep β := fun F v x => ∃ a vs, v = .ref a ∧ F a = some (.tup vs) ∧ s F vs x
def hnR {β : Type} (s : RL β) : Rep β := fun F v x => ∃ a vs, v = .ref a ∧ F a = some (.lst vs) ∧ s F vs x
section
variable {α β : Type} {r : Rep α} {s : RL β}
instance [m : Mono r] : MonoL (rO r) := ⟨fun e ⟨v, e1, h⟩ => ⟨v, e1, m.sub e h⟩⟩
instance [m : Mono r] [n : MonoL s] : MonoL (rC r s) := ⟨fun e ⟨v, us, e1, h, k⟩ => ⟨v, us, e1, m.sub e h, n.sub e k⟩⟩
instance [n : MonoL s] : Mono (tnR s) := ⟨fun e ⟨a, vs, e1, h, k⟩ => ⟨a, vs, e1, e.tup h, n.sub e k⟩⟩
instance [n : MonoL s] : Mono (hnR s) := ⟨fun e ⟨a, vs, e1, h, k⟩ => ⟨a, vs, e1, e.lst h, n.sub e k⟩⟩
class LenL {β : Type} (s : RL β) (n : outParam Nat) : Prop where
  len : ∀ {F : Hp} {vs : List V} {x : β}, s F vs x → vs.length = n
instance : LenL (rO r) 1 := ⟨fun ⟨v, e, _⟩ => by rw [e]; rfl⟩
instance {k : Nat} [l : LenL s k] : LenL (rC r s) (k + 1) := ⟨fun ⟨v, us, e, _, h⟩ => by rw [e, List.length_cons, l.len h]⟩
instance : TyIs (tnR s) "tuple" := ⟨fun ⟨a, vs, e, h, _⟩ => by subst e; exact .base (.tup h)⟩
instance : NotN (tnR s) := ⟨fun ⟨_, _, e, _⟩ => by subst e; intro z; cases z⟩
instance : NotN (hnR s) := ⟨fun ⟨_, _, e, _⟩ => by subst e; intro z; cases z⟩
instance : TyIs (hnR s) "list" := ⟨fun ⟨a, vs, e, h, _⟩ => by subst e; exact .base (.lst h)⟩
theorem rO.at {F : Hp} {vs : List V} {x : α} (h : rO r F vs x) : ∃ v, vs[0]? = some v ∧ r F v x := let ⟨v, e, h⟩ := h; ⟨v, by rw [e]; rfl, h⟩
theorem rC.tl {γ : Type} {q : Rep γ} {y : γ} {i : Nat} {F : Hp} {vs : List V} {x : α × β} (h : rC r s F vs x) (k : ∀ us, s F us x.2 → ∃ v, us[i]? = some v ∧ q F v y) : ∃ v, vs[i + 1]? = some v ∧ q F v y := let ⟨_, us, e, _, h⟩ := h; let ⟨v, hv, hq⟩ := k us h; ⟨v, by rw [e, List.getElem?_cons_succ]; exact hv, hq⟩
theorem rC.hd {F : Hp} {vs : List V} {x : α × β} (h : rC r s F vs x) : ∃ v, vs[0]? = some v ∧ r F v x.1 := let ⟨v, us, e, h, _⟩ := h; ⟨v, by rw [e]; rfl, h⟩
end
section
variable [Lams] {X : Cx} {σ : L2.St} {F M H : Hp} {a b c e o : Expr} {es : List Expr} {pos p p1 p2 apos : Pos} {α β : Type} {r : Rep α} {s : RL β} {n : Str} {rest : List Stmt} {D : Ends} {v u : V}
theorem EvN.lcT {xs : List α} {f : α → β} {q : Rep β} (h : EvN X e σ F M q ((xs.filter (fun _ => true)).map f)) : EvN X e σ F M q (xs.map f) := by rw [filter_tt] at h; exact h
theorem evv_cix {l : Addr} {ws : List V} {i : Int} {j} {q1} (ha : EvV X e σ F M (.ref l)) (hM : M l = some (.lst ws)) (h : atI ws i = some u) : EvV X (.Subscript e (.Constant (.int i) j q1) pos) σ F M u := evv_ix ha hM ev_int h
theorem er_one {x : α} [m : Mono r] (he : EvF X e σ F M r x) (hs : starEach [e] X.env = (false, eval e X.env) :: starEach [] X.env := by rfl) : EvA X [e] σ F M fun F us => rO r F us x :=
  fun F1 H1 s w Q q => wa_of (pa_cons (pe_w e) pa_nil hs) (he F1 H1 s w _ fun F2 H2 v s2 w2 hv => q F2 H2 _ s2 w2 ⟨v, rfl, hv⟩)
theorem er_cons {x : α} {y : β} [m : Mono r] (he : EvF X e σ F M r x) (h : EvA X es σ F M fun F us => s F us y) (hs : starEach (e :: es) X.env = (false, eval e X.env) :: starEach es X.env := by rfl) : EvA X (e :: es) σ F M fun F us => rC r s F us (x, y) :=
  fun F1 H1 s w Q q => wa_of (pa_cons (pe_w e) (pa_w es) hs) (he F1 H1 s w _ fun F2 H2 v s2 w2 hv => h F2 H2 (s.trans s2) w2 _ fun F3 H3 us s3 w3 hu => q F3 H3 _ (s2.trans s3) w3 ⟨v, us, rfl, Mono.mono s3 hv, hu⟩)
theorem ev_tn {x : β} {j} {k : Nat} [n : MonoL s] [l : LenL s k] (h : EvA X es σ F M fun F us => s F us x) (hl : k ≤ 1000 := by decide) : EvF X (.Tuple es j pos) σ F M (tnR s) x :=
  fun F1 H1 s1 w Q q => we_of (pe_tup (pa_w es)) (h F1 H1 s1 w _ fun F2 H2 vs s2 w2 hv => ⟨small_of (Nat.le_trans (by rw [l.len hv]; exact hl) (by decide)), fun p hp => q _ _ _ (s2.trans (same_new (w2.noF hp))) (w2.newF hp) ⟨p, vs, rfl, upd_same, n.sub (Same.sub (same_new (w2.noF hp))) hv⟩⟩)
theorem ev_hn {x : β} {k : Nat} [n : MonoL s] [l : LenL s k] (h : EvA X es σ F M fun F us => s F us x) (hl : k ≤ 1000 := by decide) : EvF X (.List es pos) σ F M (hnR s) x :=
  fun F1 H1 s1 w Q q => we_of (pe_lst (pa_w es)) (h F1 H1 s1 w _ fun F2 H2 vs s2 w2 hv => ⟨small_of (Nat.le_trans (by rw [l.len hv]; exact hl) (by decide)), fun p hp => q _ _ _ (s2.trans (same_new (w2.noF hp))) (w2.newF hp) ⟨p, vs, rfl, upd_same, n.sub (Same.sub (same_new (w2.noF hp))) hv⟩⟩)
/-- a new list of nothing yet -/
theorem eu_nilL {o : OR α} : EvU X (.List [] pos) σ F M (oL o) ([] : List α) :=
  fun F1 H1 s1 w Q q => we_of (pe_lst pa_nil) ⟨small_of (by simp), fun p hp => by
    have e : jnH M (upd (fun _ => none) p (.lst [])) = upd M p (.lst []) := by
      funext a
      by_cases z : a = p
      · subst z; rw [upd_same]; exact jnH_in upd_same
      · rw [upd_ne z]; exact jnH_out (by rw [upd_ne z])
    refine q F1 _ (upd (fun _ => none) p (.lst [])) (.ref p) [p] (Same.refl _) (by rw [e]; exact w.newM hp) (fun a ha => ?_) ⟨p, [], [], rfl, rfl, upd_same, .nil⟩ (by simp)
    by_cases z : a = p
    · subst z; exact w.noM hp
    · rw [upd_ne z] at ha; exact absurd rfl ha⟩
/-- the i-th of unlike things -/
theorem ev_tnix {x : β} {y : α} (i : Nat) {j} {q1} (ha : EvF X a σ F M (tnR s) x) (hi : (i : Int) = j := by rfl) (h : ∀ F vs, s F vs x → ∃ v, vs[i]? = some v ∧ r F v y) {k0} (hs : PlainIx (.Constant (.int j) k0 q1) := by exact fun _ _ => rfl) : EvF X (.Subscript a (.Constant (.int j) k0 q1) pos) σ F M r y :=
  fun F1 H1 s1 w Q q => we_of (pe_ix ix_tup (pe_w a) pe_int hs) (ha F1 H1 s1 w _ fun F2 H2 v s2 w2 ⟨l, vs, e, hl, h2⟩ => by
    obtain ⟨u, hu, hr⟩ := h F2 vs h2
    refine ⟨l, vs, j, u, e, rfl, .inl (.inl (w2.f _ _ hl)), ?_, q F2 H2 u s2 w2 hr⟩
    have hlt := (List.getElem?_eq_some_iff.mp hu).1
    unfold atI ixN
    rw [if_pos (by omega), if_pos (by omega), ← hi, Option.bind_some]
    exact hu)
theorem ev_hnix {x : β} {y : α} (i : Nat) {j} {q1} (ha : EvF X a σ F M (hnR s) x) (hi : (i : Int) = j := by rfl) (h : ∀ F vs, s F vs x → ∃ v, vs[i]? = some v ∧ r F v y) {k0} (hs : PlainIx (.Constant (.int j) k0 q1) := by exact fun _ _ => rfl) : EvF X (.Subscript a (.Constant (.int j) k0 q1) pos) σ F M r y :=
  fun F1 H1 s1 w Q q => we_of (pe_ix ix_list (pe_w a) pe_int hs) (ha F1 H1 s1 w _ fun F2 H2 v s2 w2 ⟨l, vs, e, hl, h2⟩ => by
    obtain ⟨u, hu, hr⟩ := h F2 vs h2
    refine ⟨l, vs, j, u, e, rfl, SqL.of (w2.f _ _ hl), ?_, q F2 H2 u s2 w2 hr⟩
    have hlt := (List.getElem?_eq_some_iff.mp hu).1
    unfold atI ixN
    rw [if_pos (by omega), if_pos (by omega), ← hi, Option.bind_some]
    exact hu)
theorem ev_intB {k : Bool} (hm : X.mg "int" = none) (ha : EvF X a σ F M bR k) (hg : Gl X "int" := by rfl) (he : starEach [a] X.env = (false, eval a X.env) :: starEach [] X.env := by rfl) (hpl : (backTo pos (starEach [] X.env)).any (·.1) = false := by rfl) :
    EvF X (.Call (.Name "int" p) [a] [] pos) σ F M iR (if k = true then (1 : Int) else 0) :=
  fun F1 H1 s1 w Q q => we_of (pe_callTy call_int1 hg hm (by decide +kernel) (pa_cons (pe_w a) pa_nil he) (he := he) (hpl := hpl)) (ha F1 H1 s1 w _ fun F2 H2 v s2 w2 hv => .inr ⟨k, by rw [show v = V.bl k from hv], q F2 H2 _ s2 w2 rfl⟩)
omit [Lams] in
theorem idx_first {xs : List Int} {i : Int} (h : i ∈ xs) : ∃ j, xs.idxOf i = j ∧ xs[j]? = some i ∧ ∀ m z, m < j → xs[m]? = some z → z ≠ i := by
  refine ⟨_, rfl, ?_, fun m z hm hz e => ?_⟩
  · have hl := List.idxOf_lt_length_iff.mpr h
    rw [List.getElem?_eq_getElem hl, List.getElem_idxOf]
  · subst e
    obtain ⟨hl, e⟩ := List.getElem?_eq_some_iff.mp hz
    have := List.not_of_lt_findIdx (p := (· == z)) (xs := xs) (i := m) hm
    simp [e] at this
/-- xs.index(i), which is there -/
theorem ev_idxI {xs : List Int} {i : Int} {cpos apos : Pos} (ha : EvF X a σ F M (rdR X.K M iR) xs) (he : EvF X e σ F M iR i) (hi : i ∈ xs)
    (hbase : attributeBase a "index" X.env (eval a X.env) = eval a X.env := by rfl)
    (hfew : ((backTo cpos (starEach [e] X.env)).all (fun x => !x.1) && (backToKw cpos (keywordEach [] X.env)).all (fun x => x.1.isSome)
      && decide ([e].length + ([] : List Keyword).length + (if ([] : List Keyword).isEmpty then 0 else 1) < 30)) = true := by rfl)
    (hline : (apos.endLine == cpos.line) = true := by rfl) (hst : starEach [e] X.env = (false, eval e X.env) :: starEach [] X.env := by rfl) (hplain : (backTo cpos (starEach [] X.env)).any (·.1) = false := by rfl) :
    EvF X (.Call (.Attribute a "index" apos) [e] [] cpos) σ F M iR (xs.idxOf i : Int) :=
  fun F1 H1 s w Q q => we_of (pe_bm PySem.F.plainAttrs_list PySem.F.slot_list_index PySem.F.type_list_index mt_index (pe_w a) (pa_cons (pe_w e) pa_nil hst) hbase hfew hline hst hplain)
    (ha F1 H1 s w _ fun F2 H2 v s2 w2 ⟨l, vs, ev, hl, hA⟩ => by
      subst ev
      refine ⟨.inl ⟨rfl, _, w2.sq hl⟩, he F2 H2 (s.trans s2) w2 _ fun F3 H3 v3 s3 w3 hv3 => ?_⟩
      cases (show v3 = V.int i from hv3)
      obtain ⟨j, ej, hj, hno⟩ := idx_first hi
      have hvs : vs = xs.map V.int := iR_map hA
      refine ⟨l, vs, .int i, j, .int i, rfl, rfl, ?_, rfl, by rw [hvs]; exact flat_ints xs, by rw [hvs, List.getElem?_map, hj]; rfl, by simp [eqV], fun m z' hm hz => ?_, ?_⟩
      · exact w3.sq (hl.imp (fun h => Same.sql s3 h) id)
      · rw [hvs, List.getElem?_map] at hz
        cases q2 : xs[m]? with
        | none => rw [q2] at hz; cases hz
        | some y =>
          rw [q2] at hz; cases hz
          simp [eqV, hno m y hm q2]
      · rw [← ej]; exact q F3 H3 _ (s2.trans s3) w3 rfl)
/-- x(..).clear(): what is new, and nobody holds it -/
theorem ss_clrN {xs : List α} {cpos : Pos} (ho : EvN X o σ F M r xs) (w : Own F M H) (k : ∀ F2 H2, Same F F2 → Own F2 M H2 → WSs X rest D σ H2)
    (hbase : attributeBase o "clear" X.env (eval o X.env) = eval o X.env := by rfl) (hline : (apos.endLine == cpos.line) = true := by rfl)
    (hsw : swapsWith (.Call (.Attribute o "clear" apos) [] [] cpos) none pos.line X.env = pure false := by rfl) :
    WSs X (.Expr (.Call (.Attribute o "clear" apos) [] [] cpos) pos :: rest) D σ H :=
  wss_cons (ws_of (ps_expr (pe_bm0 PySem.F.plainAttrs_list PySem.F.slot_list_clear PySem.F.type_list_clear mt_clear (pe_w o) hbase hline) hsw)
    (ho F H (Same.refl _) w _ fun F2 H2 l vs s2 w2 n1 n2 hh h2 => ⟨.inl ⟨rfl, _, SqL.of hh⟩, l, vs, rfl, rfl, hh, k F2 _ s2 (((w2.keepM n1 n2 hh).put upd_same).lessM ((same_new n2).trans (by rw [upd_upd]; exact Same.refl _)))⟩))
end
section
variable {P : Program} {w : World} {K : PySem.W.Frag} {mg : Str → Option Value} {base : Heap} {CX : CXT} {k k' : Nat} {f : Addr} {fd : FuncData} {ps : List Str} {sp sp' : Sp}
/-- a def that may be called holds less, and at more -/
theorem fnok_weak (G : FnOk P w K mg base CX k f fd ps sp) (hk : k ≤ k') (h : ∀ vs H Q E, sp' vs H Q E → sp vs H Q E) : FnOk P w K mg base CX k' f fd ps sp' where
  len := fun vs H Q E q => G.len vs H Q E (h vs H Q E q)
  run := fun A outer s H args us vs Q E hr e0 hb r q => G.run A outer s H args us vs Q E (hr.mono hk) e0 hb r (h vs H Q E q)
theorem fnok_never (h : ∀ vs H Q E, ¬ sp vs H Q E) : FnOk P w K mg base CX k f fd ps sp where
  len := fun vs H Q E q => absurd q (h vs H Q E)
  run := fun A outer s H args us vs Q E hr e0 hb r q => absurd q (h vs H Q E)
end
/-- the law's promise -/
def spTrue [Lams] (K : PySem.W.Frag) : Sp := FSp (α := (List Int) × Unit) (ac (rsR K iR) an) (fun x => x.1.length ≤ 63) (fun _ _ v => v = V.bl true)
theorem ok_true [Lams] {P : Program} {w : World} {K : PySem.W.Frag} {mg : Str → Option Value} {base : Heap} {k : Nat} {f : Addr} {fd : FuncData} {ps : List Str} {m : List Int → Rs Bool} (hm : ∀ s : List Int, s.length ≤ 63 → m s = .ok true)
    (G : FnOk P w K mg base CX0 k f fd ps (FSpV (α := (List Int) × Unit) (ac (rsR K iR) an) (fun x => m x.1) bR)) : FnOk P w K mg base CX0 k f fd ps (spTrue K) :=
  fnok_weak G (Nat.le_refl _) fun vs H Q E ⟨F, M, x, ha, hl, w, kk⟩ => ⟨F, M, x, ha, (show m x.1 ≠ .bad by rw [hm x.1 hl]; intro z; cases z), w, fun F2 H2 v y s2 w2 e hv => kk F2 H2 v s2 w2 (by
    have e1 : m x.1 = .ok y := e
    rw [hm x.1 hl] at e1; cases e1; exact hv)⟩
end Y

/-! ### how what a def computes ends -/
namespace Y
open PySem PySem.Spec PyProof.Rows L2
def Ends {δ ρ : Type} (m : Res δ ρ) (P : ρ → Prop) (X : Exc → δ → Prop) : Prop := match m with | .ok v => P v | .ex e s => X e s | .bad => False
abbrev Gives {δ ρ : Type} (m : Res δ ρ) (P : ρ → Prop) : Prop := Ends m P fun _ _ => False
section
variable {δ ρ α β κ : Type} {P P' : ρ → Prop} {X X' : Exc → δ → Prop} {m k a b : Res δ ρ}
theorem Ends.mono (h : Ends m P X) (hp : ∀ v, P v → P' v) (hx : ∀ e s, X e s → X' e s) : Ends m P' X' := by cases m <;> first | exact hp _ h | exact hx _ _ h | exact h
theorem Ends.ok_ {v : ρ} (h : P v) : Ends (δ := δ) (.ok v) P X := h
theorem Ends.ex_ {e : Exc} {s : δ} (h : X e s) : Ends (ρ := ρ) (.ex e s) P X := h
theorem Ends.req {A : Prop} (h : A) (q : Ends k P X) : Ends (Y.req A k) P X := by rw [req_pos h]; exact q
theorem Ends.bnd {x : α} {k : α → Res δ ρ} (q : ∀ y, y = x → Ends (k y) P X) : Ends (Y.bnd x k) P X := q x rfl
theorem Ends.jn {K : κ} {b : κ → Res δ ρ} (q : Ends (b K) P X) : Ends (Y.jn K b) P X := q
theorem Ends.ite_ {c : Bool} (h1 : c = true → Ends a P X) (h2 : c = false → Ends b P X) : Ends (if c = true then a else b) P X := by
  cases c
  · rw [if_neg Bool.false_ne_true]; exact h2 rfl
  · rw [if_pos rfl]; exact h1 rfl
theorem Ends.cal {ε : Type} {n : Res ε α} {k : α → Res δ ρ} {h : Exc → ε → Res δ ρ} {A : α → Prop} {B : Exc → ε → Prop} (hn : Ends n A B) (hk : ∀ v, n = .ok v → A v → Ends (k v) P X) (hh : ∀ e s, n = .ex e s → B e s → Ends (h e s) P X) : Ends (Y.cal n k h) P X := by
  cases n with
  | ok v => exact hk v rfl hn
  | ex e s => exact hh e s rfl hn
  | bad => exact hn.elim
theorem Gives.of (h : Gives m P) : ∃ v, m = .ok v ∧ P v := by cases m <;> first | exact ⟨_, rfl, h⟩ | exact h.elim
theorem Gives.isOk (h : Gives m P) : m.isOk := by obtain ⟨v, e, _⟩ := h.of; rw [e]; trivial
theorem Gives.get [Inhabited ρ] (h : Gives m P) : P m.get := by obtain ⟨v, e, q⟩ := h.of; rw [e]; exact q
theorem Gives.eq {v : ρ} (h : Gives m (· = v)) : m = .ok v := by obtain ⟨u, e, rfl⟩ := h.of; exact e
theorem Gives.mk {v : ρ} (e : m = .ok v) (h : P v) : Gives m P := by rw [e]; exact h
theorem Ends.ne (h : Ends m P X) : m ≠ .bad := fun z => by rw [z] at h; exact h
theorem Ends.of (h : Ends m P X) : (∃ v, m = .ok v ∧ P v) ∨ ∃ e s, m = .ex e s ∧ X e s := by cases m <;> first | exact .inl ⟨_, rfl, h⟩ | exact .inr ⟨_, _, rfl, h⟩ | exact h.elim
@[simp] theorem req_true {k : Res δ ρ} : Y.req True k = k := req_pos trivial
end
theorem cmul_of {a b : Int} (h : (-(2 ^ 64) < a ∧ a < 2 ^ 64) ∨ (-(2 ^ 64) < b ∧ b < 2 ^ 64)) : CMul a b := h
section
variable {α δ ρ : Type} {P : ρ → Prop} {X : Exc → δ → Prop}
theorem Ends.for0 {B : α → (Res δ ρ) → Res δ ρ} {K : Res δ ρ} {xs : List α}  (I : Nat → Prop) (h0 : I 0 ) (hs : ∀ i x , xs[i]? = some x → I i  → ∀ k, (I (i + 1)  → Ends (k) P X) → Ends (B x  k) P X) (he : I xs.length  → Ends (K ) P X) : Ends (forC0 B K xs ) P X :=
  forC0_wp (C := fun r => Ends r P X) I h0 hs he
theorem Ends.while0 {St : (Res δ ρ) → Res δ ρ} {n : Nat}  (I : Prop) (μ : Nat) (h0 : I ) (hn : μ  < n) (hs : I  → ∀ k, (I  → μ  < μ  → Ends (k) P X) → Ends (St  k) P X) : Ends (whileC0 St n ) P X :=
  whileC0_wp (C := fun r => Ends r P X) I μ hs n  h0 hn
end
section
variable {α δ ρ : Type} {σ0 : Type} {P : ρ → Prop} {X : Exc → δ → Prop}
theorem Ends.for1 {B : α → σ0 → (σ0 → Res δ ρ) → Res δ ρ} {K : σ0 → Res δ ρ} {xs : List α} {s0 : σ0}  (I : Nat → σ0 → Prop) (h0 : I 0 s0) (hs : ∀ i x s0, xs[i]? = some x → I i s0 → ∀ k, (∀ s0', I (i + 1) s0' → Ends (k s0') P X) → Ends (B x s0 k) P X) (he : ∀ s0, I xs.length s0 → Ends (K s0) P X) : Ends (forC1 B K xs s0) P X :=
  forC1_wp (C := fun r => Ends r P X) I h0 hs he
theorem Ends.while1 {St : σ0 → (σ0 → Res δ ρ) → Res δ ρ} {n : Nat} {s0 : σ0}  (I : σ0 → Prop) (μ : σ0 → Nat) (h0 : I s0) (hn : μ s0 < n) (hs : ∀ s0, I s0 → ∀ k, (∀ s0', I s0' → μ s0' < μ s0 → Ends (k s0') P X) → Ends (St s0 k) P X) : Ends (whileC1 St n s0) P X :=
  whileC1_wp (C := fun r => Ends r P X) I μ hs n _ h0 hn
end
section
variable {α δ ρ : Type} {σ0 σ1 : Type} {P : ρ → Prop} {X : Exc → δ → Prop}
theorem Ends.for2 {B : α → σ0 → σ1 → (σ0 → σ1 → Res δ ρ) → Res δ ρ} {K : σ0 → σ1 → Res δ ρ} {xs : List α} {s0 : σ0} {s1 : σ1}  (I : Nat → σ0 → σ1 → Prop) (h0 : I 0 s0 s1) (hs : ∀ i x s0 s1, xs[i]? = some x → I i s0 s1 → ∀ k, (∀ s0' s1', I (i + 1) s0' s1' → Ends (k s0' s1') P X) → Ends (B x s0 s1 k) P X) (he : ∀ s0 s1, I xs.length s0 s1 → Ends (K s0 s1) P X) : Ends (forC2 B K xs s0 s1) P X :=
  forC2_wp (C := fun r => Ends r P X) I h0 hs he
theorem Ends.while2 {St : σ0 → σ1 → (σ0 → σ1 → Res δ ρ) → Res δ ρ} {n : Nat} {s0 : σ0} {s1 : σ1}  (I : σ0 → σ1 → Prop) (μ : σ0 → σ1 → Nat) (h0 : I s0 s1) (hn : μ s0 s1 < n) (hs : ∀ s0 s1, I s0 s1 → ∀ k, (∀ s0' s1', I s0' s1' → μ s0' s1' < μ s0 s1 → Ends (k s0' s1') P X) → Ends (St s0 s1 k) P X) : Ends (whileC2 St n s0 s1) P X :=
  whileC2_wp (C := fun r => Ends r P X) I μ hs n _ _ h0 hn
end
section
variable {α δ ρ : Type} {σ0 σ1 σ2 : Type} {P : ρ → Prop} {X : Exc → δ → Prop}
theorem Ends.for3 {B : α → σ0 → σ1 → σ2 → (σ0 → σ1 → σ2 → Res δ ρ) → Res δ ρ} {K : σ0 → σ1 → σ2 → Res δ ρ} {xs : List α} {s0 : σ0} {s1 : σ1} {s2 : σ2}  (I : Nat → σ0 → σ1 → σ2 → Prop) (h0 : I 0 s0 s1 s2) (hs : ∀ i x s0 s1 s2, xs[i]? = some x → I i s0 s1 s2 → ∀ k, (∀ s0' s1' s2', I (i + 1) s0' s1' s2' → Ends (k s0' s1' s2') P X) → Ends (B x s0 s1 s2 k) P X) (he : ∀ s0 s1 s2, I xs.length s0 s1 s2 → Ends (K s0 s1 s2) P X) : Ends (forC3 B K xs s0 s1 s2) P X :=
  forC3_wp (C := fun r => Ends r P X) I h0 hs he
theorem Ends.while3 {St : σ0 → σ1 → σ2 → (σ0 → σ1 → σ2 → Res δ ρ) → Res δ ρ} {n : Nat} {s0 : σ0} {s1 : σ1} {s2 : σ2}  (I : σ0 → σ1 → σ2 → Prop) (μ : σ0 → σ1 → σ2 → Nat) (h0 : I s0 s1 s2) (hn : μ s0 s1 s2 < n) (hs : ∀ s0 s1 s2, I s0 s1 s2 → ∀ k, (∀ s0' s1' s2', I s0' s1' s2' → μ s0' s1' s2' < μ s0 s1 s2 → Ends (k s0' s1' s2') P X) → Ends (St s0 s1 s2 k) P X) : Ends (whileC3 St n s0 s1 s2) P X :=
  whileC3_wp (C := fun r => Ends r P X) I μ hs n _ _ _ h0 hn
end
section
variable {α δ ρ : Type} {σ0 σ1 σ2 σ3 : Type} {P : ρ → Prop} {X : Exc → δ → Prop}
theorem Ends.for4 {B : α → σ0 → σ1 → σ2 → σ3 → (σ0 → σ1 → σ2 → σ3 → Res δ ρ) → Res δ ρ} {K : σ0 → σ1 → σ2 → σ3 → Res δ ρ} {xs : List α} {s0 : σ0} {s1 : σ1} {s2 : σ2} {s3 : σ3}  (I : Nat → σ0 → σ1 → σ2 → σ3 → Prop) (h0 : I 0 s0 s1 s2 s3) (hs : ∀ i x s0 s1 s2 s3, xs[i]? = some x → I i s0 s1 s2 s3 → ∀ k, (∀ s0' s1' s2' s3', I (i + 1) s0' s1' s2' s3' → Ends (k s0' s1' s2' s3') P X) → Ends (B x s0 s1 s2 s3 k) P X) (he : ∀ s0 s1 s2 s3, I xs.length s0 s1 s2 s3 → Ends (K s0 s1 s2 s3) P X) : Ends (forC4 B K xs s0 s1 s2 s3) P X :=
  forC4_wp (C := fun r => Ends r P X) I h0 hs he
theorem Ends.while4 {St : σ0 → σ1 → σ2 → σ3 → (σ0 → σ1 → σ2 → σ3 → Res δ ρ) → Res δ ρ} {n : Nat} {s0 : σ0} {s1 : σ1} {s2 : σ2} {s3 : σ3}  (I : σ0 → σ1 → σ2 → σ3 → Prop) (μ : σ0 → σ1 → σ2 → σ3 → Nat) (h0 : I s0 s1 s2 s3) (hn : μ s0 s1 s2 s3 < n) (hs : ∀ s0 s1 s2 s3, I s0 s1 s2 s3 → ∀ k, (∀ s0' s1' s2' s3', I s0' s1' s2' s3' → μ s0' s1' s2' s3' < μ s0 s1 s2 s3 → Ends (k s0' s1' s2' s3') P X) → Ends (St s0 s1 s2 s3 k) P X) : Ends (whileC4 St n s0 s1 s2 s3) P X :=
  whileC4_wp (C := fun r => Ends r P X) I μ hs n _ _ _ _ h0 hn
end
section
variable {α δ ρ : Type} {σ0 σ1 σ2 σ3 σ4 : Type} {P : ρ → Prop} {X : Exc → δ → Prop}
theorem Ends.for5 {B : α → σ0 → σ1 → σ2 → σ3 → σ4 → (σ0 → σ1 → σ2 → σ3 → σ4 → Res δ ρ) → Res δ ρ} {K : σ0 → σ1 → σ2 → σ3 → σ4 → Res δ ρ} {xs : List α} {s0 : σ0} {s1 : σ1} {s2 : σ2} {s3 : σ3} {s4 : σ4}  (I : Nat → σ0 → σ1 → σ2 → σ3 → σ4 → Prop) (h0 : I 0 s0 s1 s2 s3 s4) (hs : ∀ i x s0 s1 s2 s3 s4, xs[i]? = some x → I i s0 s1 s2 s3 s4 → ∀ k, (∀ s0' s1' s2' s3' s4', I (i + 1) s0' s1' s2' s3' s4' → Ends (k s0' s1' s2' s3' s4') P X) → Ends (B x s0 s1 s2 s3 s4 k) P X) (he : ∀ s0 s1 s2 s3 s4, I xs.length s0 s1 s2 s3 s4 → Ends (K s0 s1 s2 s3 s4) P X) : Ends (forC5 B K xs s0 s1 s2 s3 s4) P X :=
  forC5_wp (C := fun r => Ends r P X) I h0 hs he
theorem Ends.while5 {St : σ0 → σ1 → σ2 → σ3 → σ4 → (σ0 → σ1 → σ2 → σ3 → σ4 → Res δ ρ) → Res δ ρ} {n : Nat} {s0 : σ0} {s1 : σ1} {s2 : σ2} {s3 : σ3} {s4 : σ4}  (I : σ0 → σ1 → σ2 → σ3 → σ4 → Prop) (μ : σ0 → σ1 → σ2 → σ3 → σ4 → Nat) (h0 : I s0 s1 s2 s3 s4) (hn : μ s0 s1 s2 s3 s4 < n) (hs : ∀ s0 s1 s2 s3 s4, I s0 s1 s2 s3 s4 → ∀ k, (∀ s0' s1' s2' s3' s4', I s0' s1' s2' s3' s4' → μ s0' s1' s2' s3' s4' < μ s0 s1 s2 s3 s4 → Ends (k s0' s1' s2' s3' s4') P X) → Ends (St s0 s1 s2 s3 s4 k) P X) : Ends (whileC5 St n s0 s1 s2 s3 s4) P X :=
  whileC5_wp (C := fun r => Ends r P X) I μ hs n _ _ _ _ _ h0 hn
end
section
variable {α δ ρ : Type} {σ0 σ1 σ2 σ3 σ4 σ5 : Type} {P : ρ → Prop} {X : Exc → δ → Prop}
theorem Ends.for6 {B : α → σ0 → σ1 → σ2 → σ3 → σ4 → σ5 → (σ0 → σ1 → σ2 → σ3 → σ4 → σ5 → Res δ ρ) → Res δ ρ} {K : σ0 → σ1 → σ2 → σ3 → σ4 → σ5 → Res δ ρ} {xs : List α} {s0 : σ0} {s1 : σ1} {s2 : σ2} {s3 : σ3} {s4 : σ4} {s5 : σ5}  (I : Nat → σ0 → σ1 → σ2 → σ3 → σ4 → σ5 → Prop) (h0 : I 0 s0 s1 s2 s3 s4 s5) (hs : ∀ i x s0 s1 s2 s3 s4 s5, xs[i]? = some x → I i s0 s1 s2 s3 s4 s5 → ∀ k, (∀ s0' s1' s2' s3' s4' s5', I (i + 1) s0' s1' s2' s3' s4' s5' → Ends (k s0' s1' s2' s3' s4' s5') P X) → Ends (B x s0 s1 s2 s3 s4 s5 k) P X) (he : ∀ s0 s1 s2 s3 s4 s5, I xs.length s0 s1 s2 s3 s4 s5 → Ends (K s0 s1 s2 s3 s4 s5) P X) : Ends (forC6 B K xs s0 s1 s2 s3 s4 s5) P X :=
  forC6_wp (C := fun r => Ends r P X) I h0 hs he
theorem Ends.while6 {St : σ0 → σ1 → σ2 → σ3 → σ4 → σ5 → (σ0 → σ1 → σ2 → σ3 → σ4 → σ5 → Res δ ρ) → Res δ ρ} {n : Nat} {s0 : σ0} {s1 : σ1} {s2 : σ2} {s3 : σ3} {s4 : σ4} {s5 : σ5}  (I : σ0 → σ1 → σ2 → σ3 → σ4 → σ5 → Prop) (μ : σ0 → σ1 → σ2 → σ3 → σ4 → σ5 → Nat) (h0 : I s0 s1 s2 s3 s4 s5) (hn : μ s0 s1 s2 s3 s4 s5 < n) (hs : ∀ s0 s1 s2 s3 s4 s5, I s0 s1 s2 s3 s4 s5 → ∀ k, (∀ s0' s1' s2' s3' s4' s5', I s0' s1' s2' s3' s4' s5' → μ s0' s1' s2' s3' s4' s5' < μ s0 s1 s2 s3 s4 s5 → Ends (k s0' s1' s2' s3' s4' s5') P X) → Ends (St s0 s1 s2 s3 s4 s5 k) P X) : Ends (whileC6 St n s0 s1 s2 s3 s4 s5) P X :=
  whileC6_wp (C := fun r => Ends r P X) I μ hs n _ _ _ _ _ _ h0 hn
end
section
variable {α δ ρ : Type} {σ0 σ1 σ2 σ3 σ4 σ5 σ6 : Type} {P : ρ → Prop} {X : Exc → δ → Prop}
theorem Ends.for7 {B : α → σ0 → σ1 → σ2 → σ3 → σ4 → σ5 → σ6 → (σ0 → σ1 → σ2 → σ3 → σ4 → σ5 → σ6 → Res δ ρ) → Res δ ρ} {K : σ0 → σ1 → σ2 → σ3 → σ4 → σ5 → σ6 → Res δ ρ} {xs : List α} {s0 : σ0} {s1 : σ1} {s2 : σ2} {s3 : σ3} {s4 : σ4} {s5 : σ5} {s6 : σ6}  (I : Nat → σ0 → σ1 → σ2 → σ3 → σ4 → σ5 → σ6 → Prop) (h0 : I 0 s0 s1 s2 s3 s4 s5 s6) (hs : ∀ i x s0 s1 s2 s3 s4 s5 s6, xs[i]? = some x → I i s0 s1 s2 s3 s4 s5 s6 → ∀ k, (∀ s0' s1' s2' s3' s4' s5' s6', I (i + 1) s0' s1' s2' s3' s4' s5' s6' → Ends (k s0' s1' s2' s3' s4' s5' s6') P X) → Ends (B x s0 s1 s2 s3 s4 s5 s6 k) P X) (he : ∀ s0 s1 s2 s3 s4 s5 s6, I xs.length s0 s1 s2 s3 s4 s5 s6 → Ends (K s0 s1 s2 s3 s4 s5 s6) P X) : Ends (forC7 B K xs s0 s1 s2 s3 s4 s5 s6) P X :=
  forC7_wp (C := fun r => Ends r P X) I h0 hs he
theorem Ends.while7 {St : σ0 → σ1 → σ2 → σ3 → σ4 → σ5 → σ6 → (σ0 → σ1 → σ2 → σ3 → σ4 → σ5 → σ6 → Res δ ρ) → Res δ ρ} {n : Nat} {s0 : σ0} {s1 : σ1} {s2 : σ2} {s3 : σ3} {s4 : σ4} {s5 : σ5} {s6 : σ6}  (I : σ0 → σ1 → σ2 → σ3 → σ4 → σ5 → σ6 → Prop) (μ : σ0 → σ1 → σ2 → σ3 → σ4 → σ5 → σ6 → Nat) (h0 : I s0 s1 s2 s3 s4 s5 s6) (hn : μ s0 s1 s2 s3 s4 s5 s6 < n) (hs : ∀ s0 s1 s2 s3 s4 s5 s6, I s0 s1 s2 s3 s4 s5 s6 → ∀ k, (∀ s0' s1' s2' s3' s4' s5' s6', I s0' s1' s2' s3' s4' s5' s6' → μ s0' s1' s2' s3' s4' s5' s6' < μ s0 s1 s2 s3 s4 s5 s6 → Ends (k s0' s1' s2' s3' s4' s5' s6') P X) → Ends (St s0 s1 s2 s3 s4 s5 s6 k) P X) : Ends (whileC7 St n s0 s1 s2 s3 s4 s5 s6) P X :=
  whileC7_wp (C := fun r => Ends r P X) I μ hs n _ _ _ _ _ _ _ h0 hn
end
section
variable {α δ ρ : Type} {σ0 σ1 σ2 σ3 σ4 σ5 σ6 σ7 : Type} {P : ρ → Prop} {X : Exc → δ → Prop}
theorem Ends.for8 {B : α → σ0 → σ1 → σ2 → σ3 → σ4 → σ5 → σ6 → σ7 → (σ0 → σ1 → σ2 → σ3 → σ4 → σ5 → σ6 → σ7 → Res δ ρ) → Res δ ρ} {K : σ0 → σ1 → σ2 → σ3 → σ4 → σ5 → σ6 → σ7 → Res δ ρ} {xs : List α} {s0 : σ0} {s1 : σ1} {s2 : σ2} {s3 : σ3} {s4 : σ4} {s5 : σ5} {s6 : σ6} {s7 : σ7}  (I : Nat → σ0 → σ1 → σ2 → σ3 → σ4 → σ5 → σ6 → σ7 → Prop) (h0 : I 0 s0 s1 s2 s3 s4 s5 s6 s7) (hs : ∀ i x s0 s1 s2 s3 s4 s5 s6 s7, xs[i]? = some x → I i s0 s1 s2 s3 s4 s5 s6 s7 → ∀ k, (∀ s0' s1' s2' s3' s4' s5' s6' s7', I (i + 1) s0' s1' s2' s3' s4' s5' s6' s7' → Ends (k s0' s1' s2' s3' s4' s5' s6' s7') P X) → Ends (B x s0 s1 s2 s3 s4 s5 s6 s7 k) P X) (he : ∀ s0 s1 s2 s3 s4 s5 s6 s7, I xs.length s0 s1 s2 s3 s4 s5 s6 s7 → Ends (K s0 s1 s2 s3 s4 s5 s6 s7) P X) : Ends (forC8 B K xs s0 s1 s2 s3 s4 s5 s6 s7) P X :=
  forC8_wp (C := fun r => Ends r P X) I h0 hs he
theorem Ends.while8 {St : σ0 → σ1 → σ2 → σ3 → σ4 → σ5 → σ6 → σ7 → (σ0 → σ1 → σ2 → σ3 → σ4 → σ5 → σ6 → σ7 → Res δ ρ) → Res δ ρ} {n : Nat} {s0 : σ0} {s1 : σ1} {s2 : σ2} {s3 : σ3} {s4 : σ4} {s5 : σ5} {s6 : σ6} {s7 : σ7}  (I : σ0 → σ1 → σ2 → σ3 → σ4 → σ5 → σ6 → σ7 → Prop) (μ : σ0 → σ1 → σ2 → σ3 → σ4 → σ5 → σ6 → σ7 → Nat) (h0 : I s0 s1 s2 s3 s4 s5 s6 s7) (hn : μ s0 s1 s2 s3 s4 s5 s6 s7 < n) (hs : ∀ s0 s1 s2 s3 s4 s5 s6 s7, I s0 s1 s2 s3 s4 s5 s6 s7 → ∀ k, (∀ s0' s1' s2' s3' s4' s5' s6' s7', I s0' s1' s2' s3' s4' s5' s6' s7' → μ s0' s1' s2' s3' s4' s5' s6' s7' < μ s0 s1 s2 s3 s4 s5 s6 s7 → Ends (k s0' s1' s2' s3' s4' s5' s6' s7') P X) → Ends (St s0 s1 s2 s3 s4 s5 s6 s7 k) P X) : Ends (whileC8 St n s0 s1 s2 s3 s4 s5 s6 s7) P X :=
  whileC8_wp (C := fun r => Ends r P X) I μ hs n _ _ _ _ _ _ _ _ h0 hn
end
end Y

/-! ### sorted and min by a lambda of one name -/
namespace Y
open PySem PySem.Spec PyProof.Rows L2
/-- e, worked out in env where the names hold m, gives the int i and leaves the heap -/
def RawI (P : Program) (w : World) (A : Around) (env : Env) (h : Heap) (e : Expr) (i : Int) : Prop :=
  ∀ (s : Shared) (Q : Value → Shared → Prop) (E : Value → Shared → Prop), s.heap = h → (∀ t tk, Q (.int i t) { s with toks := tk }) → wpAny (model P w) A (eval e env) Q E s
section
variable {P : Program} {w : World} {A : Around} {env : Env} {h : Heap} {e a b : Expr} {i j : Int} {pos p q : Pos} {n : Str}
theorem raw_int {k : Nat} : RawI P w A env h (.Constant (.int i) k pos) i := fun s Q E e q => wpAny_Constant_int (q _ _)
theorem raw_sub (ha : RawI P w A env h a i) (hb : RawI P w A env h b j) : RawI P w A env h (.BinOp a .Sub b pos) (i - j) := fun s Q E e q =>
  wpAny_BinOp (ha s _ _ e fun t tk => hb _ _ _ e fun u tk2 => sub_int (q _ _))
/-- the name holds a tuple: its k-th -/
theorem raw_ix {m : Str → Option Value} {l : Addr} {vs : Array Value} {k : Nat} {t : Tok} {j0 : Nat} {q1 : Pos} (hk : env.scope.kind = .function) (hl : env.kindOf n = some .local) (hn : h.Ns env.locals m) (hv : m n = some (.ref l)) (ht : PyProof.Rows.IsTup h l vs)
    (hi : vs[k]? = some (.int i t)) (hs : k < 100) (hd : (n == ("__debug__" : Str)) = false) :
    RawI P w A env h (.Subscript (.Name n p) (.Constant (.int (k : Int)) j0 q1) pos) i := fun s Q E e q => by
  subst e
  refine Subscript_ (wpAny_Name (wpAny_loadName_local hk hl hn hv ?_) hd)
  refine wpAny_Constant_int ?_
  have hlt : k < vs.size := (Array.getElem?_eq_some_iff.mp hi).1
  have it : PyProof.Rows.IsTup (({ s with toks := s.toks + 1 } : Shared)).heap l vs := ht
  refine subscriptTail_builtinR (x := .int i t) it.typeIs slot_tuple_getitem.lookup (PyProof.Rows.getItem_tuple (j := k) (Q := fun r s' => r = .int i t ∧ Q r s') it (by omega) (by omega) (by rw [PySem.seqIndex_of (by omega) (by omega)]; rfl) hi ⟨rfl, q t _⟩) (by rfl)
/-- a tuple of three ints -/
theorem raw_t2 {x1} {k : List Int} {s : Shared} (ha : RawI P w A env s.heap a i) (hb : RawI P w A env s.heap b j) (he : backTo pos (starEach [a, b] env) = [(false, eval a env), (false, eval b env)] := by rfl) :
    wpAny (model P w) A (eval (.Tuple [a, b] x1 pos) env) (PySem.W.KeyPure (.tuple [.int i, .int j]) s) (fun _ _ => False) s := by
  refine wpAny_Tuple_spliced ?_
  rw [he]
  refine Calls.spliced_cons (ha s _ _ rfl fun t1 k1 => Calls.spliced_cons (hb _ _ _ rfl fun t2 k2 => Calls.spliced_nil ⟨show 2 ≤ sizeLine from by decide, ?_⟩))
  exact ⟨_, _, rfl, fun b o e => Heap.get?_push_of_some _ e, .tuple (Heap.get?_push_size _ rfl) rfl rfl (.cons (.int _ _) (.cons (.int _ _) .nil))⟩
theorem raw_t3 {c : Expr} {x1} {k : Int} {s : Shared} (ha : RawI P w A env s.heap a i) (hb : RawI P w A env s.heap b j) (hc : RawI P w A env s.heap c k) (he : backTo pos (starEach [a, b, c] env) = [(false, eval a env), (false, eval b env), (false, eval c env)] := by rfl) :
    wpAny (model P w) A (eval (.Tuple [a, b, c] x1 pos) env) (PySem.W.KeyPure (.tuple [.int i, .int j, .int k]) s) (fun _ _ => False) s := by
  refine wpAny_Tuple_spliced ?_
  rw [he]
  refine Calls.spliced_cons (ha s _ _ rfl fun t1 k1 => Calls.spliced_cons (hb _ _ _ rfl fun t2 k2 => Calls.spliced_cons (hc _ _ _ rfl fun t3 k3 => Calls.spliced_nil ⟨show 3 ≤ sizeLine from by decide, ?_⟩)))
  exact ⟨_, _, rfl, fun b o e => Heap.get?_push_of_some _ e, .tuple (Heap.get?_push_size _ rfl) rfl rfl (.cons (.int _ _) (.cons (.int _ _) (.cons (.int _ _) .nil)))⟩
/-- abs of it -/
theorem raw_abs {mg mb : Str → Option Value} (hk : env.scope.kind = .function) (hx : env.kindOf "abs" = some .globalImplicit) (hg : h.Ns env.globals mg) (hm : mg "abs" = none) (hb : h.Ns env.builtins mb) (hv : mb "abs" = some (.builtin "abs")) (ha : RawI P w A env h a i)
    (he : starEach [a] env = (false, eval a env) :: starEach [] env := by rfl) (hpl : (backTo pos (starEach [] env)).any (·.1) = false := by rfl) (hb2 : backTo pos (starEach [a] env) = [(false, eval a env)] := by rfl) :
    RawI P w A env h (.Call (.Name "abs" p) [a] [] pos) (if i < 0 then -i else i) := fun s Q E e q => by
  subst e
  refine wpAny_Call_Name_kw (Calls.Name_function_global hk hx (Calls.loadGlobal_builtin hg hm hb hv ?_))
  refine PyProof.Rows.callWith_builtin1 (e := a) (rest := []) (env := env) ?_ he hpl
  rw [hb2]
  refine Calls.spliced_cons (ha s _ _ rfl fun t1 k1 => Calls.spliced_nil ?_)
  exact call_abs_int fun u tk => q u tk
end
/-- a lambda of one name, without captured ones -/
structure Lam1 (n : Str) (sc : Scope) : Prop where
  kind : sc.kind = .function
  co : sc.isCoroutine = false
  gen : sc.isGenerator = false
  loc : sc.names.lookup n = some .local
  nocell : ∀ y ∈ sc.names, y.2 ≠ .cell
  nofree : ∀ y ∈ sc.names, y.2 ≠ .free
section
variable {P : Program} {w : World} {A : Around} {n qual : Str} {params : Arguments} {body : Expr} {scope : Scope} {f c' : Addr} {pm ctv v : Value} {k : PyData} {s : Shared}
theorem lam_run (L : Lam1 n scope) (hf : s.heap.get? f = some (PySem.W.kla_obj "<lambda>" qual params body scope [] pm c' ctv)) (hcd : s.heap.CodeRec (.ref c') qual) (hroom : A.depth < recursionLimit) (hl : s.heap.NoLimit)
    (hbind : bindArgs (PySem.W.kla_fn "<lambda>" qual params body scope [] pm (.ref c') ctv) ⟨[v], []⟩ = pure [(n, v)])
    (h : ∀ h₁ tk, (∀ b o, s.heap.get? b = some o → h₁.get? b = some o) → h₁.Ns s.heap.objs.size (fun y => [(n, v)].reverse.lookup y) →
      wpAny (model P w) (A.deeper (PySem.W.envX qual scope s.heap.objs.size f (.ref c') [])) (eval body (PySem.W.envX qual scope s.heap.objs.size f (.ref c') [])) (PySem.W.KeyPure k { s with heap := h₁, toks := tk }) (fun _ _ => False) { s with heap := h₁, toks := tk }) :
    wpAny (model P w) A (call (.ref f) [v]) (PySem.W.KeyPure k s) (fun _ _ => False) s := by
  refine wpAny_call (PySem.W.kla_callFunE hroom hf rfl L.co L.gen rfl hcd ?_)
  rw [hbind]
  refine wpAny_pure (wpAny_newFunctionEnv L.nocell (fun y hy => by rw [List.mem_singleton] at hy; rw [hy]; exact L.loc) (fun h₁ hns hsb => ⟨hl.fresh _ hsb, ?_⟩) L.kind)
  show codeAny _ _ (.expr body (PySem.W.envX qual scope s.heap.objs.size f (.ref c') [])) _ _
  have hk₁ : ∀ b o, s.heap.get? b = some o → h₁.get? b = some o := fun b o e => hsb.extBut b o (Nat.ne_of_lt (Heap.lt_size e)) (Heap.get?_push_of_some _ e)
  refine PySem.W.kla_codeExpr (wpAny_mono (h h₁ _ hk₁ hns) (fun u s' hq => ?_) fun _ _ z => z.elim)
  obtain ⟨h', tk, rfl, kp, r⟩ := hq
  exact ⟨h', tk, rfl, fun b o e => kp _ _ (hk₁ _ _ e), r⟩
end
/-! the keys' order is the order of the rows of ints -/
theorem lex_itemI {x y : Int} {l m : List (Int ⊕ List Nat)} : PyProof.Rows.lexLt PyProof.Rows.itemOrd ((Sum.inl x : Int ⊕ List Nat) :: l) ((Sum.inl y : Int ⊕ List Nat) :: m) = if x = y then PyProof.Rows.lexLt PyProof.Rows.itemOrd l m else decide (x < y) := by
  rw [PyProof.Rows.lex_cons]
  show (decide (x < y) || (!decide (y < x) && _)) = _
  by_cases e : x = y
  · subst e; simp
  · rw [if_neg e]
    by_cases q : x < y
    · simp [q]
    · have : y < x := by omega
      simp [q, this]
theorem keys_lex : ∀ {xs ys : List Int}, xs.length = ys.length → PyProof.Rows.lexLt PyProof.Rows.itemOrd (PySem.W.keyToksAll (xs.map PyData.int)) (PySem.W.keyToksAll (ys.map PyData.int)) = HT.lexLt xs ys
  | [], [], _ => by rw [HT.lexLt_nil_nil]; rfl
  | [], _ :: _, e => by simp at e
  | _ :: _, [], e => by simp at e
  | x :: xs, y :: ys, e => by
    rw [List.map_cons, List.map_cons, PySem.W.toks_all_cons, PySem.W.toks_all_cons, HT.lexLt_cons, lex_itemI, if_pos rfl]
    show PyProof.Rows.lexLt PyProof.Rows.itemOrd ((Sum.inl x : Int ⊕ List Nat) :: _) ((Sum.inl y : Int ⊕ List Nat) :: _) = _
    rw [lex_itemI]
    have ih := keys_lex (xs := xs) (ys := ys) (by simpa using e)
    by_cases q : x = y
    · rw [if_pos q, if_pos q]; exact ih
    · rw [if_neg q, if_neg q]
theorem dataLe_is {α : Type} {key : α → List Int} {m : Nat} (h : ∀ x, (key x).length = m) : PySem.W.dataLe false (fun x => PyData.tuple ((key x).map PyData.int)) = leK key := by
  funext x y
  show (!PyProof.Rows.lexLt PyProof.Rows.itemOrd (PySem.W.keyToksAll _) (PySem.W.keyToksAll _)) = _
  rw [keys_lex ((h y).trans (h x).symm)]
  rfl
/-- raw rows of ints -/
theorem ints_at {its : List Value} {ns : List Int} (h : IntsAre its ns) : ∀ {k : Nat} {i : Int}, ns[k]? = some i → ∃ t, its[k]? = some (.int i t) := by
  induction h with
  | nil => intro k i h; simp at h
  | cons x t r ih =>
    intro k i h
    cases k with
    | zero => rw [List.getElem?_cons_zero] at h ⊢; cases h; exact ⟨t, rfl⟩
    | succ k => rw [List.getElem?_cons_succ] at h ⊢; exact ih h
/-- the lambda's body gives the key, told of raw tuples of ints -/
def LamBody (P : Program) (w : World) (qual : Str) (n : Str) (scope : Scope) (body : Expr) {α : Type} (row key : α → List Int) (G : Heap → Prop) : Prop :=
  ∀ (A : Around) (s : Shared) (L f c' : Addr) (v : Value) (x : α), A.depth < recursionLimit → IsTupI s.heap v (row x) → s.heap.Ns L (fun y => [(n, v)].reverse.lookup y) → G s.heap →
    wpAny (model P w) A (eval body (PySem.W.envX qual scope L f (.ref c') [])) (PySem.W.KeyPure (.tuple ((key x).map PyData.int)) s) (fun _ _ => False) s
/-- what the maker of a lambda knows -/
structure Maker [Lams] (X : Cx) : Prop where
  ex : ∃ c P, LamX.TabB X.base X.mg c P ∧ X.env.code = .ref c ∧ (P, X.env.qual ++ "<lambda>") ∈ Lams.T ∧ ∀ p ∈ Lams.T, p.1 = P → p.2 = X.env.qual ++ "<lambda>"
section
variable [Lams] {X : Cx} {σ : L2.St} {F M H H2 : Hp} {a : Expr} {pos p p2 lpos kpos : Pos} {α : Type} {r : Rep α} {xs : List α} {n : Str} {params : Arguments} {body : Expr} {scope : Scope} {key : α → List Int}
theorem Own.extN (w : Own F M H) (e : LamX.ExtN H H2) (b : LamX.Tabs Lams.T H2) : Own F M H2 :=
  ⟨fun a o h => e _ _ (w.f _ _ h) fun ps z => (by have := w.u _ _ h; rw [z] at this; cases this), fun a o h => e _ _ (w.m _ _ h) fun ps z => (by have := w.t _ _ h; rw [z] at this; cases this), w.d, w.t, b, w.u⟩
theorem codeRec_ext {P : Program} {w : World} {H : Hp} {h : Heap} {c : Addr} {q : Str} (ok : HOk P w H h) (e : H c = some (LamX.CodeO c q)) : h.CodeRec (.ref c) q := by
  obtain ⟨⟨oc, vs, t, hoc, hdc, hvc⟩, _, _⟩ := ok c _ e
  exact ⟨c, oc, vs, t, rfl, hoc, hdc, hvc⟩
omit [Lams] in
theorem each_of {G : Hp} : ∀ {ws : List V} {its : List Value} {xs : List α}, Vals ws its → A2 (r G) ws xs → PySem.W.EachIs (fun v x => ∃ y, L2.RelV y v ∧ r G y x) its xs
  | _, _, _, .nil, .nil => .nil
  | _, _, _, .cons h t, .cons h2 t2 => .cons ⟨_, h, h2⟩ (each_of t t2)
omit [Lams] in
theorem of_each {G : Hp} : ∀ {its : List Value} {xs : List α}, PySem.W.EachIs (fun v x => ∃ y, L2.RelV y v ∧ r G y x) its xs → ∃ ws, Vals ws its ∧ A2 (r G) ws xs
  | _, _, .nil => ⟨[], .nil, .nil⟩
  | _, _, .cons ⟨y, h, h2⟩ t => let ⟨ws, h3, h4⟩ := of_each t; ⟨y :: ws, .cons h h3, .cons h2 h4⟩
omit [Lams] in
theorem depth_ints : ∀ (ns : List Int), PyData.depthAll (ns.map PyData.int) ≤ 1
  | [] => by rw [List.map_nil, PyData.depthAll]; omega
  | n :: ns => by rw [List.map_cons, PyData.depthAll]; have := depth_ints ns; rw [PyData.depth]; omega
omit [Lams] in
theorem alike_ints : ∀ (ns ms : List Int), PySem.W.alikeAll (ns.map PyData.int) (ms.map PyData.int) = true
  | [], _ => by rw [List.map_nil, PySem.W.alikeAll]
  | _ :: _, [] => by rw [List.map_cons, List.map_nil, PySem.W.alikeAll]
  | n :: ns, m :: ms => by rw [List.map_cons, List.map_cons, PySem.W.alikeAll, alike_ints ns ms]; rfl
/-- sorted(xs, key=lambda n: (..)) -/
theorem en_sortLam [m : Mono r] [t : TupI r] {kl : Nat} (hk : ∀ x, (key x).length = kl) (hkl : 0 < kl) (hm : X.mg "sorted" = none) (mk : Maker X) (L : Lam1 n scope) (hroom : Room 4 X.A) (ha : EvF X a σ F M (rdR X.K M r) xs)
    (hlam : LamBody X.prog X.w (X.env.qual ++ "<lambda>") n scope body t.key key (fun h => h.Ns mainGlobals X.mg ∧ ∃ mb, h.Ns builtinsNs mb ∧ ∀ x : Str, x ≠ "__name__" → mb x = bootBuiltins x))
    (hbind : ∀ (q : Str) (cl : List (Str × Addr)) (pm cv ctv v : Value), bindArgs (PySem.W.kla_fn "<lambda>" q params body scope cl pm cv ctv) ⟨[v], []⟩ = pure [(n, v)] := by exact fun _ _ _ _ _ _ => rfl)
    (hdef : defaultsOf params X.env = ([], []) := by rfl)
    (hg : Gl X "sorted" := by rfl) (he : starEach [a] X.env = (false, eval a X.env) :: starEach [] X.env := by rfl)
    (heb : backTo pos (starEach [a] X.env) = (false, eval a X.env) :: backTo pos (starEach [] X.env) := by rfl) (hpl : (backTo pos (starEach [a] X.env)).any (·.1) = false := by rfl)
    (hall : (backToKw pos (keywordEach [⟨some "key", .Lambda params body scope lpos, kpos⟩] X.env)).all (·.1.isSome) = true := by rfl) (hnone : (backToKw pos (keywordEach [⟨some "key", .Lambda params body scope lpos, kpos⟩] X.env)).any (·.1.isNone) = false := by rfl)
    (hks : (backToKw pos (keywordEach [⟨some "key", .Lambda params body scope lpos, kpos⟩] X.env)).filterMap (·.1) = [("key" : Str)] := by rfl) :
    EvN X (.Call (.Name "sorted" p) [a] [⟨some "key", .Lambda params body scope lpos, kpos⟩] pos) σ F M r (srtK key xs) := fun F1 H1 s1 w1 Q q => by
  intro pins st I
  refine wpAny_Call_Name_kw (ld_blt (u := .builtin "sorted") I hg hm (by decide +kernel) ?_)
  refine PyProof.Rows.callWith_kw (L2.thn ((pa_cons (pe_w a) pa_nil he).run pos pins st σ H1 (fun vs H2 => ∃ F2 v, vs = [v] ∧ Same F1 F2 ∧ Own F2 M H2 ∧ rdR X.K M r F2 v xs) I (ha F1 H1 s1 w1 _ fun F2 H2 v s2 w2 hv => ⟨F2, v, rfl, s2, w2, hv⟩)) fun us st1 ⟨vs, H2, I2, r2, F2, v, e2, s2, w2, l, ws, e3, hl, hA⟩ => ?_) heb hpl hall hnone
  rw [hks]
  subst e2 e3
  obtain ⟨u, rfl, ru⟩ := vals1 r2
  obtain rfl : u = Value.ref l := ru
  show wpAny _ _ (evalAll ((do let v ← eval (.Lambda params body scope lpos) X.env; standAt pos; pure v) :: [])) _ _ _
  obtain ⟨c, P, TB, hcode, hmem, huq⟩ := mk.ex
  refine wpAny_evalAll_cons (wpAny_bind (LamX.lam_make2 I2 TB hcode hmem huq w2.b hdef (fun y hy e => absurd e (L.nofree y hy)) fun f c' pm ctv H3 st3 I3 eN T3 hf hfn hfr hco => wpAny_bind (wpAny_standAt (wpAny_pure (wpAny_evalAll_nil ?_)))))
  have ecl : cloFrom X.env.cells scope.names [] = [] := by
    cases q : cloFrom X.env.cells scope.names [] with
    | nil => rfl
    | cons y ys =>
      have hy : y ∈ cloFrom X.env.cells scope.names [] := by rw [q]; exact List.mem_cons_self
      rcases cloFrom_mem (n := y.1) (c := y.2) hy with z | ⟨z, _⟩
      · cases z
      · exact absurd rfl (L.nofree _ z)
  rw [ecl] at hf
  have w3 := w2.extN eN T3
  obtain ⟨its, rv, hL, hz⟩ := I3.list (w3.sq hl)
  have hxl : xs.length ≤ sizeLine := by rw [← hA.len]; exact hz
  have hn : H3 (st3.heap.objs.size + 1) = none := I3.hok.fresh (Nat.le_succ _)
  refine PySem.W.sorted_key_data (b := false) (R := fun v x => ∃ y, L2.RelV y v ∧ r F2 y x) (k := fun x => PyData.tuple ((key x).map PyData.int)) hL.isList (each_of rv hA) (fun d hd d' hd' => ?_) (.inl fun d hd => ?_) hxl (fun x _ => ?_) (PyProof.Rows.ksk_s1 _ _) (fun _ => PyProof.Rows.ksk_l1 _ _) (fun _ => PyProof.Rows.ksk_t1 _ _) (fun v x ⟨y, ry, rx⟩ _ h tk kp => ?_) fun out c h' tk kp _ hat hlen he => ?_
  · obtain ⟨x, _, rfl⟩ := List.mem_map.mp hd
    obtain ⟨y, _, rfl⟩ := List.mem_map.mp hd'
    rw [PySem.W.alike]; exact alike_ints _ _
  · obtain ⟨x, _, rfl⟩ := List.mem_map.mp hd
    have := hk x
    cases q : key x with
    | nil => rw [q] at this; simp at this; omega
    | cons y ys => exact ⟨_, _, rfl⟩
  · have h1 := depth_ints (key x)
    have h2 := hroom.units
    show _ + 2 + PyData.depth (.tuple _) < _
    rw [PyData.depth]
    omega
  · obtain ⟨u, rfl, ht⟩ := t.tup rx
    obtain rfl : v = Value.ref u := ry
    obtain ⟨_, its2, rr, o, ho, hc, n2, hd⟩ := I3.hok _ _ (w3.f _ _ ht)
    have cr := codeRec_ext I3.hok hco
    have nl : st3.heap.NoLimit := I3.nolimit
    refine lam_run L (kp _ _ hf) ?_ hroom.in1.in1.depth (nl.keeps kp) (hbind _ _ _ _ _ _) fun h₁ tk2 kp2 hns => ?_
    · obtain ⟨c1, oc, vs, t1, e1, e2, e3, e4⟩ := cr
      exact ⟨c1, oc, vs, t1, e1, kp _ _ e2, e3, e4⟩
    · have kk : ∀ b o, st3.heap.get? b = some o → h₁.get? b = some o := fun b o e => kp2 _ _ (kp _ _ e)
      refine hlam _ _ _ _ _ _ _ (hroom.in1.in1.deeper _).depth ⟨u, o, its2, n2, rfl, kk _ _ ho, hc, hd, rr.ints⟩ hns ⟨?_, ?_⟩
      · exact (I3.ok.mod.glob.keeps I3.bk).keeps kk
      · obtain ⟨mb, h1, h2⟩ := I3.ok.mod.blt
        exact ⟨mb, (h1.keeps I3.bk).keeps kk, h2⟩
  · rw [dataLe_is hk] at he
    obtain ⟨ws', hv, hA'⟩ := of_each he
    have hl2 : ws'.length ≤ sizeLine := by rw [hA'.len, List.length_mergeSort]; exact hxl
    exact ⟨.ref _, upd H3 (st3.heap.objs.size + 1) (.lst ws'), I3.laid (t' := tk) kp (Nat.le_succ _) ⟨hl2, out, c, hv, hat⟩, rfl, q F2 _ _ ws' s2 (w3.more hn) (w3.noF hn) (w3.noM hn) upd_same hA'⟩
end
end Y

/-! ### defs that make lambdas, and a law's end with their tables -/
namespace Y
open PySem PySem.Spec PyProof.Rows L2
theorem lamb_21 {P : Program} {w : World} {qual n : Str} {scope : Scope} {p1 p3 q1 q2 q3 q4 pos : Pos} {j1 j2 : Nat} {x1} {G : Heap → Prop} (L : Lam1 n scope) (hd : (n == ("__debug__" : Str)) = false := by decide) :
    LamBody P w qual n scope (.Tuple [.Subscript (.Name n p1) (.Constant (.int 1) j1 q1) q2, .Subscript (.Name n p3) (.Constant (.int 0) j2 q3) q4] x1 pos) (TupI.key (r := t3R iR iR iR)) (fun x : Int × Int × Int => [x.2.1, x.1]) G := by
  intro A s Lc f c' v x hA ht hns _
  obtain ⟨l, o, its, k, rfl, ho, hc, hdt, hi⟩ := ht
  have it : PyProof.Rows.IsTup s.heap l its.toArray := ⟨o, ho, hc, k, hdt⟩
  have hk : (PySem.W.envX qual scope Lc f (.ref c') []).scope.kind = .function := L.kind
  have hl : (PySem.W.envX qual scope Lc f (.ref c') []).kindOf n = some .local := L.loc
  have hv : (fun y => [(n, Value.ref l)].reverse.lookup y) n = some (.ref l) := by simp [List.lookup]
  obtain ⟨t1, h1⟩ := ints_at hi (k := 1) (i := x.2.1) rfl
  obtain ⟨t0, h0⟩ := ints_at hi (k := 0) (i := x.1) rfl
  exact raw_t2 (k := []) (raw_ix (k := 1) hk hl hns hv it (by rw [List.getElem?_toArray]; exact h1) (by decide) hd) (raw_ix (k := 0) hk hl hns hv it (by rw [List.getElem?_toArray]; exact h0) (by decide) hd)
section
variable {P : Program} {w : World} {K : PySem.W.Frag} {mg : Str → Option Value} {base : Heap}
/-- a def holds its promise; its code object is known -/
theorem ok_defC {x qual : Str} {st : Stmt} {f : Addr} {fd : FuncData} {N ps : List Str} {k : Nat} {sp : Sp} (F : Fun K x qual st f fd) (S : FnScope N ps (defScope st)) (len : ∀ vs H Q E, sp vs H Q E → vs.length = ps.length)
    (hbody : ∀ (A : Around) (outer : List Env) (s : Shared) (H : Hp) (vs : List V) (Q : VK) (E : XK), Room k (A.deeper (envOfC qual (defScope st) s.heap.objs.size f fd.code)) → sp vs H Q E →
      WSs (cxOf CX0 P w K mg base N qual (defScope st) f fd.code A outer s H E).nox (defBody st) { nx := fun _ H' => Q .non H', rt := Q } (start N vs) H) : FnOk P w K mg base CX0 (k + 1) f fd ps sp := by
  obtain ⟨oc, od, kV, doc, pm, an, cdv, ct, osl, rfl, lk, hcd⟩ := F.ex
  exact fn_of lk hcd S len fun A outer s H vs Q E hr h => ⟨_, (pss_w _).nox, hbody A outer s H vs Q E hr h⟩
theorem ok_defXC {x qual : Str} {st : Stmt} {f : Addr} {fd : FuncData} {N ps : List Str} {k : Nat} {sp : Sp} (F : Fun K x qual st f fd) (S : FnScope N ps (defScope st)) (len : ∀ vs H Q E, sp vs H Q E → vs.length = ps.length)
    (hbody : ∀ (A : Around) (outer : List Env) (s : Shared) (H : Hp) (vs : List V) (Q : VK) (E : XK), Room k (A.deeper (envOfC qual (defScope st) s.heap.objs.size f fd.code)) → sp vs H Q E →
      Takes (cxOf (L2.CX P w) P w K mg base N qual (defScope st) f fd.code A outer s H E) (fun cls d _ H => E cls d H) →
      WSs (cxOf (L2.CX P w) P w K mg base N qual (defScope st) f fd.code A outer s H E) (defBody st) { nx := fun _ H' => Q .non H', rt := Q } (start N vs) H) : FnOk P w K mg base (L2.CX P w) (k + 1) f fd ps sp := by
  obtain ⟨oc, od, kV, doc, pm, an, cdv, ct, osl, rfl, lk, hcd⟩ := F.ex
  exact fn_of lk hcd S len fun A outer s H vs Q E hr h => ⟨_, pss_w _, hbody A outer s H vs Q E hr h (takes_of rfl rfl rfl rfl)⟩
end
/-- a def of the program: its code object, with an empty table -/
def DefTab (mg : Str → Option Value) (h : Heap) (nm : Str) : Prop := ∃ a o fd c P, mg nm = some (.ref a) ∧ h.get? a = some o ∧ o.data = .func fd ∧ fd.code = .ref c ∧ h.IsCode c P #[] ∧ h.TableAt c P #[]
theorem walk_tabs {l : PySem.W.OpenLaw} {n k : Nat} {q : Program} {loose : List Str} {XP : (Str → Option Value) → Heap → Prop} {YP : World → Heap → Prop} {d : DefRec} {K : Params → PySem.W.Frag} {CX : World → CXT} {x : Str}
    (hn : l.most = some n) (hn2 : n ≤ sizeLine) (hdf : d.params.defaults = []) (hr : Room k callerA) (hY : ∀ (w : World) (h : Heap), YP w h → (K w.params).In h)
    (F : ∀ (w : World) (mg : Str → Option Value) (fa : Addr) (h : Heap), (K w.params).In h → h.Ns mainGlobals mg → mg d.name = some (.ref fa) → (∀ nm, ((recsOf q).any fun e => e.name == nm) = true → DefTab mg h nm) → LamX.LawAtS l w (K w.params) (CX w) k n x mg fa h)
    (hCX : ∀ (w : World) (H : Hp) (s : Shared) (e : Value) (s' : Shared), CX w [] H s (fun _ _ _ => False) e s' → False) :
    PySem.W.WalkO q loose XP YP l.row.toRowW d [] (fun f vs => PySem.call f vs) := by
  refine Att.attach_callB hn hdf fun w s₀ s₁ mg mb fa o pm cd doc a vs ns G Y ho hd hcd hmg hobj hints hlen hbits hg => ?_
  have KX := hY w _ Y
  obtain ⟨fd, cs, sp, hT, nT, C, hb, hsp, hF⟩ := F w mg fa _ KX G.T.g hmg fun nm hrec => by
    obtain ⟨dL, hm, hn1⟩ := List.any_eq_true.mp hrec
    have hn2 : dL.name = nm := beq_iff_eq.mp hn1
    obtain ⟨a', o', fd', c', P', h1, h2, h3, h4, h5, h6⟩ := G.T.tab dL hm
    exact ⟨a', o', fd', c', P', by rw [← hn2]; exact h1, h2, h3, h4, h5, h6⟩
  exact LamX.law_callTs KX G.T.g G.T.b G.T.builtins G.T.nolimit hg hT nT C G.T.bmain hobj hints (Nat.le_trans hlen hn2) hr hF hb (fun H hH hS => hsp H a ns hlen hbits hH hS) fun H e s' => hCX w H s₁ e s'
/-- where a def's code object and its table stand -/
structure TabAt (K : PySem.W.Frag) (mg : Str → Option Value) (h : Heap) (c P : Addr) : Prop where
  t : h.get? P = some { cls := .none, data := .fields #[] }
  n : K.lookup P = none
  c : PySem.W.CodeHd h c P
theorem tab_at {K : PySem.W.Frag} {mg : Str → Option Value} {h : Heap} {nm : Str} {f c P : Addr} {oc e : Value} {od dd : Option Addr} {fd : FuncData} {sl sl2 : Array (Option Value)} {vs : Array Value} (X : K.In h) (D : DefTab mg h nm) (hm : mg nm = some (.ref f)) (lk : K.lookup f = some ⟨oc, od, .func fd, sl⟩) (hc : fd.code = .ref c)
    (lc : K.lookup c = some ⟨e, dd, .fields vs, sl2⟩) (hv : vs[11]? = some (.ref P)) (hn : K.lookup P = none) : TabAt K mg h c P := by
  obtain ⟨a, o, fd2, c2, P2, h1, h2, h3, h4, h5, h6⟩ := D
  rw [hm] at h1; cases h1
  have g1 := X _ _ lk
  rw [g1] at h2; cases h2
  cases h3
  rw [hc] at h4; cases h4
  have hd := PySem.W.CodeHd.of h5 h6
  obtain ⟨⟨oc2, vc, e1, _, e3, e4⟩, hP⟩ := h6
  have g2 := X _ _ lc
  rw [g2] at e1; cases e1
  cases e3
  rw [hv] at e4; cases e4
  exact ⟨hP, hn, hd⟩
/-- all but the tables -/
def noT (H : Hp) : Hp := fun a => match H a with
  | some (.tbl _) => none
  | o => o
theorem noT_same {H : Hp} : Same (noT H) H := fun a o e => by
  unfold noT at e
  split at e
  · cases e
  · exact e
theorem noT_at {H : Hp} {a : Addr} {o : HO} (h : H a = some o) (hn : ntb o = true) : noT H a = some o := by
  unfold noT
  rw [h]
  cases o <;> first | rfl | cases hn
theorem own_start [Lams] {H : Hp} (hT : ∀ p ∈ Lams.T, H p.1 = some (.tbl #[])) : Own (noT H) (fun _ => none) H :=
  ⟨noT_same, fun _ _ e => (nomatch e), fun _ _ e => (nomatch e), fun _ _ e => (nomatch e), fun p hp => LamX.TabS.nil (hT p hp), fun a o e => by
    unfold noT at e
    split at e
    · cases e
    · rename_i h2
      cases o with
      | tbl ps => exact absurd e (fun z => h2 ps z)
      | _ => rfl⟩
theorem rd_noT {H : Hp} {a : Addr} {u : HO} (h : Rd H a u) (hn : ntb u = true) : Rd (noT H) a u := by
  rcases h with h | ⟨o, h⟩
  · exact .inl (noT_at h hn)
  · exact .inr ⟨o, noT_at h rfl⟩
theorem sql_noT {K : PySem.W.Frag} {H : Hp} {a : Addr} {vs : List V} (h : SqL K H a vs) : SqL K (noT H) a vs := h.imp (fun h => rd_noT h rfl) id
theorem sp_start [Lams] {K : PySem.W.Frag} {H : Hp} {a : Addr} {ns : List Int} (hl : ns.length ≤ 63) (hT : ∀ p ∈ Lams.T, H p.1 = some (.tbl #[])) (hS : SqL K H a (ns.map V.int)) : spTrue K [.ref a] H (fun v _ => v = .bl true) fun _ _ _ => False :=
  ⟨noT H, fun _ => none, (ns, ()), ⟨_, _, rfl, ⟨a, _, rfl, sql_noT hS, A2.mapI V.int ns⟩, rfl⟩, hl, own_start hT, fun _ _ _ _ _ h => h⟩
/-- the tables' names stand apart -/
theorem lam_one {P : Addr} {n : Str} : ∀ p ∈ [(P, n)], p.1 = P → p.2 = n := fun p hp _ => by rw [List.mem_singleton] at hp; rw [hp]
theorem lam_l {P P2 : Addr} {n n2 : Str} (h : P2 ≠ P) : ∀ p ∈ [(P, n), (P2, n2)], p.1 = P → p.2 = n := fun p hp e => by
  rcases List.mem_cons.mp hp with rfl | hp
  · rfl
  · rw [List.mem_singleton] at hp; rw [hp] at e; exact absurd e h
theorem lam_r {P P2 : Addr} {n n2 : Str} (h : P2 ≠ P) : ∀ p ∈ [(P, n), (P2, n2)], p.1 = P2 → p.2 = n2 := fun p hp e => by
  rcases List.mem_cons.mp hp with rfl | hp
  · exact absurd e.symm h
  · rw [List.mem_singleton] at hp; rw [hp]
end Y

/-! ### sorted of a dict's keys: ints, tuples of ints -/
namespace Y
open PySem PySem.Spec PyProof.Rows L2
theorem sort_plain (a : Addr) : Builtin.«list.sort» ⟨[.ref a], []⟩ = Builtin.«list.sort» ⟨[.ref a], [(Str.ofString "reverse", .bool false)]⟩ := by
  first | rfl | exact SrtR.list_sort_false _
theorem oG_sm {α : Type} [Inhabited α] {x : Option α} (h : x.isSome = true) : x = some (oG x) := by
  cases x with
  | none => cases h
  | some y => rfl
def rSortedDI : List V → Hp → VK → Prop := fun vs H Q => ∃ (a : Addr) (kvs : List (Key × V)) (ns : List Int), vs = [V.ref a] ∧ Rd H a (.dK kvs) ∧ kvs.map (·.1) = ns.map Sum.inl ∧ ∀ (ys : List Int) (p : Addr), ys.Perm ns → ys.Pairwise (· ≤ ·) → H p = none → Q (.ref p) (upd H p (.lst (ys.map V.int)))
theorem pairs_at {prog : Program} {w : World} : ∀ {es : List DictEntry} {kvs : List (Key × Value)}, PySem.Pairs (mixKind prog w) es kvs → ∀ {ns : List Int}, kvs.map (·.1) = ns.map Sum.inl → IntsAre (es.map (·.key)) ns
  | _, _, .nil, ns, e => by
    cases ns with
    | nil => exact .nil
    | cons n t => cases e
  | _, _, .cons h1 _ t, ns, e => by
    cases ns with
    | nil => cases e
    | cons n t2 =>
      rw [List.map_cons, List.map_cons] at e
      obtain ⟨e1, e2⟩ := List.cons.inj e
      rcases keyIs_shape h1 with ⟨i, tk, h3, h4⟩ | ⟨x, tk, h3, h4⟩
      · have : i = n := Sum.inl.inj (h3.symm.trans e1)
        subst this
        rw [List.map_cons, h4]
        exact .cons _ _ (pairs_at t e2)
      · exact absurd (h3.symm.trans e1) (fun z => nomatch z)
theorem kv_keys {kvs : List (Key × V)} {vs : List (Key × Value)} (h : KV kvs vs) : vs.map (·.1) = kvs.map (·.1) := by
  unfold KV at h
  induction h with
  | nil => rfl
  | cons h _ ih => rw [List.map_cons, List.map_cons, ih, h.1]
section
variable {X : Cx}
theorem cr_sortedDI (hc : X.calm = true) : CallR X (.builtin "sorted") rSortedDI := by
  intro pins s σ H vs us Q I r h
  obtain ⟨a, kvs, ns, rfl, hd, hks, q⟩ := h
  obtain rfl := Vals.ref1 r
  obtain ⟨z, hs, xs, pr, o, es, ep, ho, hx, hdt, hko, hpr, hn⟩ := dk_rd I.hok hd
  have l2 : kvs.length = xs.length := Paired.length pr
  have l1 : es.toList.length = xs.length := hpr.length
  have hI := pairs_at hpr ((kv_keys pr).trans hks)
  have hl0 : es.size ≤ sizeLine := by rw [Array.length_toList] at l1; omega
  refine sorted_of (b := false) (kw := []) (vs := es.toList.map (·.key)) (ltv := SrtO.ltIv) sort_plain (args_sorted1 _) (fun _ => args_list_sort _) SrtO.swo_int (fun R hR => ?_) (by rw [List.length_map, Array.length_toList]; exact hl0) (fun h2 h₁ tk a' ha' kk => SrtO.ints_sortable hI h2) fun h0 h' tk d out h1 h2 kp0 kp hd' hn' => ?_
  · refine PySem.W.kdu_collect (A := X.A.in1) (kdl_raw hs hx hdt) (I.ok.hd hc) ho hl0 fun h' tk acc kp it => ?_
    have ea : acc.toList = es.toList.map (·.key) := by
      apply List.ext_getElem?
      intro j
      rw [List.getElem?_map, Array.getElem?_toList]
      cases hj : acc[j]? with
      | none =>
        have h1 := Array.getElem?_eq_none_iff.mp hj
        have h2 := it.1
        rw [Array.getElem?_toList, Array.getElem?_eq_none (by omega)]
        rfl
      | some v =>
        obtain ⟨en, hen, hv⟩ := it.2 j v hj
        rw [Array.getElem?_toList, hen, hv]
        rfl
    rw [ea]; exact hR h' tk kp
  · obtain ⟨a1, a2, a3⟩ := SrtO.ints_out hI h1 h2
    obtain ⟨n, hn'⟩ := hn'
    have I1 : Inv X pins σ H { s with heap := h0, toks := tk } := I.kept kp0
    have hn0 : H d = none := I1.hok.fresh hd'
    have hlen : ((out.map SrtO.iv).map V.int).length ≤ sizeLine := by rw [List.length_map, a2.length_eq, ← hI.length, List.length_map, Array.length_toList]; exact hl0
    exact ⟨.ref d, upd H d (.lst ((out.map SrtO.iv).map V.int)), I1.laid (t' := tk) kp hd' ⟨hlen, out, n, vals_of_ints a1, by simpa using hn'⟩, rfl, q _ d a2 a3 hn0⟩
theorem cr_sortedDT (hc : X.calm = true) : CallR X (.builtin "sorted") (fun vs H Q => rSortedDT false [] vs [] H Q) := by
  intro pins s σ H vs us Q I r h
  obtain ⟨a, kvs, m, hm0, rfl, _, hd, hks, q⟩ := h
  obtain rfl := Vals.ref1 r
  exact sortedDT_run hc I hm0 hd hks sort_plain (args_sorted1 _) (fun _ => args_list_sort _) q
end
section
variable [Lams] {X : Cx} {σ : L2.St} {F M H : Hp} {a b c e : Expr} {pos p p2 : Pos} {κ α β : Type} [DecidableEq κ] {rk : Rep κ} [t : TupB rk] {r : Rep α} {n : Str} {rest : List Stmt} {D : L2.Ends}
theorem en_sortedDI {kvs : List (Int × α)} (hc : X.calm = true) (hm : X.mg "sorted" = none) (ha : EvF X a σ F M (rdD M r) kvs) (hg : Gl X "sorted" := by rfl) (he : starEach [a] X.env = (false, eval a X.env) :: starEach [] X.env := by rfl) (hpl : (backTo pos (starEach [] X.env)).any (·.1) = false := by rfl) :
    EvN X (.Call (.Name "sorted" p) [a] [] pos) σ F M iR (srtI (kvs.map (·.1))) :=
  fun F1 H1 s w Q q => we_of (pe_callB (cr_sortedDI hc) hg hm (by decide +kernel) (pa_cons (pe_w a) pa_nil he) (he := he) (hpl := hpl)) (ha F1 H1 s w _ fun F2 H2 v s2 w2 ⟨l, ks, e, hl, hk⟩ => by
    refine ⟨l, ks, kvs.map (·.1), by rw [e], rdD.rd w2 hl, ?_, fun ns p hp hpw hn => ?_⟩
    · have aux : ∀ {ks : List (Key × V)} {kvs : List (Int × α)}, A2 (fun p q => p.1 = KeyT.k q.1 ∧ r F2 p.2 q.2 ∧ KeyT.rk (kV p.1) q.1) ks kvs → ks.map (·.1) = (kvs.map (·.1)).map Sum.inl := by
        intro ks kvs h
        induction h with
        | nil => rfl
        | cons h _ ih => rw [List.map_cons, List.map_cons, List.map_cons, ih, h.1]; rfl
      exact aux hk.1
    · rw [srtI_uniq hp hpw]
      exact q F2 _ p _ s2 (w2.more hn) (w2.noF hn) (w2.noM hn) upd_same (A2.mapI V.int _))
theorem en_sortedDT {kvs : List (κ × α)} [mk : Mono rk] (hc : X.calm = true) (hm : X.mg "sorted" = none) (ha : EvF X a σ F M (rdT M rk r) kvs) (hg : Gl X "sorted" := by rfl) (he : starEach [a] X.env = (false, eval a X.env) :: starEach [] X.env := by rfl) (hpl : (backTo pos (starEach [] X.env)).any (·.1) = false := by rfl) :
    EvN X (.Call (.Name "sorted" p) [a] [] pos) σ F M rk (srtK t.key (kvs.map (·.1))) :=
  fun F1 H1 s w Q q => we_of (pe_callB (cr_sortedDT hc) hg hm (by decide +kernel) (pa_cons (pe_w a) pa_nil he) (he := he) (hpl := hpl)) (ha F1 H1 s w _ fun F2 H2 v s2 w2 ⟨l, ks, e, hl, hk⟩ => by
    refine ⟨l, ks, t.m, t.pos, by rw [e], rfl, rdT.rd w2 hl, fun p hp => ?_, fun bs ys d hbs hp ho hd => ?_⟩
    · obtain ⟨i, hi⟩ := List.getElem?_of_mem hp
      obtain ⟨x, hx, h1⟩ := hk.1.getL hi
      exact ⟨t.key x.1, h1.1, t.len _⟩
    · have w3 := w2.tups
      have kb : A2 (rk (tupF F2 H2)) (bs.map V.ref) (kvs.map (·.1)) := by
        clear hp ho
        have aux : ∀ {ks : List (List Key × V)} {kvs : List (κ × α)} {bs : List Addr}, A2 (fun p q => p.1 = kI (t.key q.1) ∧ r F2 p.2 q.2) ks kvs → IsKeys H2 ks bs → A2 (rk (tupF F2 H2)) (bs.map V.ref) (kvs.map (·.1)) := by
          intro ks kvs bs h1 h2
          induction h1 generalizing bs with
          | nil => cases h2; exact .nil
          | cons q _ ih =>
            cases h2 with
            | cons r1 r2 =>
              refine .cons (t.back (tupF_at w2 ?_)) (ih r2)
              rw [r1, q.1, kI_kV]
        exact aux hk.1 hbs
      obtain ⟨zs, hz2, hz1⟩ := A2.perm hp kb
      have hkey : ∀ {v : V} {x : κ}, rk (tupF F2 H2) v x → keyV H2 v = t.key x := fun {v x} h => by
        obtain ⟨b, rfl, hb⟩ := t.tup h
        exact keyV_of (w3.f _ _ hb)
      have ho2 : ys.Pairwise (fun x y => HT.lexLt (keyV H2 y) (keyV H2 x) = false) := by simpa using ho
      have hpz : zs.Pairwise (fun x y => HT.lexLt (t.key y) (t.key x) = false) := hz1.pw (fun a b a' b' h1 h2 h3 => by rw [← hkey h1, ← hkey h2]; exact h3) ho2
      have ez : zs = srtK t.key (kvs.map (·.1)) := srtK_uniq (fun x _ => t.len x) t.inj hz2 hpz
      subst ez
      exact q (tupF F2 H2) _ d ys (s2.trans tupF_same) (w3.more hd) (w3.noF hd) (w3.noM hd) upd_same hz1)
end
section
variable [Lams] {X : Cx} {σ : L2.St} {M0 F M H : Hp} {d0 d : List Addr} {α β : Type} {r : Rep α} {s : OS β} {vs : List V} {y : β} {v : V} {e a ix : Expr} {pos : Pos} {rest : List Stmt} {D : L2.Ends}
theorem sh_dputT {κ : Type} [DecidableEq κ] {rk : Rep κ} [t : TupB rk] {kx : κ} {x : α} {put : List (κ × α) → β} {xs : List (κ × α)} {q2 : Pos} [m : Mono r] [mk : Mono rk] [q : OMS s] (hu : X.A.units + 64 < cLine) (h : SH M0 d0 s d F M H vs y) (f : Foc s d F M vs (oDT rk r) v xs put) (ho : EvV X a σ F M v) (he : EvF X e σ F M r x) (hix : EvF X ix σ F M rk kx) (hl : xs.length < 1000000)
    (k : ∀ F2 M2 H2 d2, Same F F2 → SH M0 d0 s d2 F2 M2 H2 vs (put (pt kx x xs)) → WSs X rest D σ H2)
    (hsw : swapsWith e (some (.Subscript a ix q2)) pos.line X.env = pure false := by rfl) :
    WSs X (.Assign [.Subscript a ix q2] e pos :: rest) D σ H := by
  obtain ⟨l, ws, rfl, hM, hA, kk⟩ := h.dct f
  refine wss_cons (ws_of (ps_dput (by omega) (pe_w a) (pe_w ix) (pe_w e) hsw) (he F H (Same.refl _) h.w _ fun F2 H2 v3 s2 w2 hv3 => ho F2 H2 s2 w2 _ fun F3 H3 v2 s3 w3 hv => hix F3 H3 (s2.trans s3) w3 _ fun F4 H4 u s4 w4 hu => by
    have hz : ws.length < sizeLine := Nat.lt_of_lt_of_le (show ws.length < 1000000 by rw [hA.len]; exact hl) (by decide)
    obtain ⟨d2, h2⟩ := kk F4 _ _ _ ((s2.trans s3).trans s4) (w4.put hM) ((hA.up ((s2.trans s3).trans s4)).put (Mono.mono (s3.trans s4) hv3))
    obtain ⟨b, rfl, hb⟩ := t.tup hu
    exact ⟨l, _, hv, DPut.t (w4.m _ _ hM) (by rw [kI_kV]; exact w4.f _ _ hb) hz, k F4 _ _ d2 ((s2.trans s3).trans s4) h2⟩))
end
end Y

/-! ### one of two kinds; index of things compared at depth; the handled exception with its fields -/
namespace Y
open PySem PySem.Spec PyProof.Rows L2
def uR {α β : Type} (r : Rep α) (s : Rep β) : Rep (α ⊕ β) := fun F v x => match x with | .inl a => r F v a | .inr b => s F v b
instance {α β : Type} {r : Rep α} {s : Rep β} [m : Mono r] [n : Mono s] : Mono (uR r s) := ⟨fun {F F' v x} e h => by
  cases x with
  | inl a => exact m.sub e h
  | inr b => exact n.sub e h⟩
instance {α β : Type} {r : Rep α} {s : Rep β} [m : NotN r] [n : NotN s] : NotN (uR r s) := ⟨fun {F v x} h => by
  cases x with
  | inl a => exact NotN.nn (r := r) (y := a) h
  | inr b => exact NotN.nn (r := s) (y := b) h⟩
instance {α β : Type} [Inhabited α] : Inhabited (α ⊕ β) := ⟨.inl default⟩
def uL {α β : Type} [Inhabited α] : α ⊕ β → α | .inl a => a | .inr _ => default
def uRt {α β : Type} [Inhabited β] : α ⊕ β → β | .inr b => b | .inl _ => default
instance {α β γ δ : Type} {r : Rep α} {s : Rep β} {t : Rep γ} {q : Rep δ} [d : DEq r] [e : DEq s] [f : DEq t] [g : DEq q] : DEq (uR (t3R r s t) (lR q)) where
  toD := fun x => match x with | .inl a => DEq.toD (t3R r s t) a | .inr b => DEq.toD (lR q) b
  dep := max (DEq.dep (t3R r s t)) (DEq.dep (lR q))
  dp := fun {K F v x} h => by
    cases x with
    | inl a => exact DEq.dp (r := t3R r s t) (x := a) h
    | inr b => exact DEq.dp (r := lR q) (x := b) h
  lay := fun {F v x} h => by
    cases x with
    | inl a => exact DEq.lay (r := t3R r s t) (x := a) h
    | inr b => exact DEq.lay (r := lR q) (x := b) h
  dpt := fun x => by
    cases x with
    | inl a => exact Nat.le_trans (DEq.dpt (r := t3R r s t) a) (Nat.le_max_left _ _)
    | inr b => exact Nat.le_trans (DEq.dpt (r := lR q) b) (Nat.le_max_right _ _)
  eqv := fun x y => by
    cases x with
    | inl a =>
      cases y with
      | inl b => exact (DEq.eqv (r := t3R r s t) a b).trans (by simp)
      | inr b => exact ⟨fun h => (by cases h), fun h => (by cases h)⟩
    | inr a =>
      cases y with
      | inl b => exact ⟨fun h => (by cases h), fun h => (by cases h)⟩
      | inr b => exact (DEq.eqv (r := lR q) a b).trans (by simp)
section
variable [Lams] {X : Cx} {σ : L2.St} {F M H : Hp} {a b c e : Expr} {pos p p2 : Pos} {α β : Type} {r : Rep α} {s : Rep β} {n : Str} {rest : List Stmt} {D : L2.Ends}
theorem Ev.inl {x : α} (h : EvF X e σ F M r x) : EvF X e σ F M (uR r s) (.inl x) := h
theorem Ev.inr {x : β} (h : EvF X e σ F M s x) : EvF X e σ F M (uR r s) (.inr x) := h
theorem Ev.uL [Inhabited α] {x : α ⊕ β} (h : EvF X e σ F M (uR r s) x) (q : x.isLeft = true) : EvF X e σ F M r (Y.uL x) := by
  cases x with
  | inl a => exact h
  | inr b => cases q
theorem Ev.uR [Inhabited β] {x : α ⊕ β} (h : EvF X e σ F M (uR r s) x) (q : x.isLeft = false) : EvF X e σ F M s (uRt x) := by
  cases x with
  | inl a => cases q
  | inr b => exact h
theorem bx_isiU {T' : Str} {S1 S2 S' : String} {x : α ⊕ β} {k1 k2 : Bool} [t1 : TyIs r S1] [t2 : TyIs s S2] [m1 : Mono r] [m2 : Mono s] {q2 : Pos} (hm : X.mg "isinstance" = none) (hT : X.mg T' = none) (hb : bootBuiltins T' = some (.type S')) (ha : EvF X a σ F M (uR r s) x) (hk1 : kitB S1 S' = some k1) (hk2 : kitB S2 S' = some k2) (hg : Gl X "isinstance" := by rfl) (hgT : Gl X T' := by rfl)
    (hn : T' ≠ "__name__" := by decide) (hd : (T' == ("__debug__" : Str)) = false := by decide)
    (he : starEach [a, .Name T' q2] X.env = (false, eval a X.env) :: starEach [.Name T' q2] X.env := by rfl) (he2 : starEach [.Name T' q2] X.env = (false, eval (.Name T' q2) X.env) :: starEach [] X.env := by rfl) (hpl : (backTo pos (starEach [.Name T' q2] X.env)).any (·.1) = false := by rfl)
    (ht : ∀ whole, isTrue (.Call (.Name "isinstance" p) [a, .Name T' q2] [] pos) X.env whole = (do let v ← whole; standAt (Expr.Call (.Name "isinstance" p) [a, .Name T' q2] [] pos).pos; holding [v] (truthy v)) := by intro _; rfl) :
    Bx X (.Call (.Name "isinstance" p) [a, .Name T' q2] [] pos) σ F M (if x.isLeft = true then k1 else k2) := by
  cases x with
  | inl y => exact bx_isi (r := r) (x := y) hm hT hb ha hk1 hg hgT hn hd he he2 hpl ht
  | inr y => exact bx_isi (r := s) (x := y) hm hT hb ha hk2 hg hgT hn hd he he2 hpl ht
/-- xs.index(x), which is there -/
theorem u65 {k : Nat} {A : Around} (r : Room k A) : A.units + 65 < cLine := by have := r.un; omega
theorem idx_firstD {α : Type} [BEq α] [LawfulBEq α] {xs : List α} {i : α} (h : i ∈ xs) : xs[xs.idxOf i]? = some i ∧ ∀ m z, m < xs.idxOf i → xs[m]? = some z → z ≠ i := by
  refine ⟨?_, fun m z hm hz e => ?_⟩
  · have hl := List.idxOf_lt_length_iff.mpr h
    rw [List.getElem?_eq_getElem hl, List.getElem_idxOf]
  · subst e
    obtain ⟨hl, e⟩ := List.getElem?_eq_some_iff.mp hz
    have := List.not_of_lt_findIdx (p := (· == z)) (xs := xs) (i := m) hm
    simp [e] at this
theorem ev_idxD [d : DEq r] [m : Mono r] [BEq α] [LawfulBEq α] {xs : List α} {i : α} {cpos apos : Pos} (hu : X.A.units + 65 < cLine) (ha : EvF X a σ F M (rtR M r) xs) (he : EvF X e σ F M r i) (hi : i ∈ xs) (hdep : d.dep ≤ 63 := by decide)
    (hbase : attributeBase a "index" X.env (eval a X.env) = eval a X.env := by rfl)
    (hfew : ((backTo cpos (starEach [e] X.env)).all (fun x => !x.1) && (backToKw cpos (keywordEach [] X.env)).all (fun x => x.1.isSome)
      && decide ([e].length + ([] : List Keyword).length + (if ([] : List Keyword).isEmpty then 0 else 1) < 30)) = true := by rfl)
    (hline : (apos.endLine == cpos.line) = true := by rfl) (hst : starEach [e] X.env = (false, eval e X.env) :: starEach [] X.env := by rfl) (hplain : (backTo cpos (starEach [] X.env)).any (·.1) = false := by rfl) :
    EvF X (.Call (.Attribute a "index" apos) [e] [] cpos) σ F M iR (xs.idxOf i : Int) :=
  fun F1 H1 s w Q q => we_of (pe_bm PySem.F.plainAttrs_list PySem.F.slot_list_index PySem.F.type_list_index (mt_indexD hu) (pe_w a) (pa_cons (pe_w e) pa_nil hst) hbase hfew hline hst hplain)
    (ha F1 H1 s w _ fun F2 H2 v s2 w2 hv => by
      have hv0 := hv
      obtain ⟨l, vs, rfl, hl, hA⟩ := hv0
      have hsq : SqL X.K H2 l vs := hl.elim (fun q => SqL.of (w2.f _ _ q)) fun q => SqL.of (w2.m _ _ q)
      refine ⟨.inl ⟨rfl, _, hsq⟩, he F2 H2 (s.trans s2) w2 _ fun F3 H3 v3 s3 w3 hv3 => ?_⟩
      have hv4 : rtR M r F3 (.ref l) xs := ⟨l, vs, rfl, hl.imp (fun q => s3 _ _ q) id, hA.imp fun _ _ z => Mono.mono s3 z⟩
      obtain ⟨p1, l1⟩ := rt_dp (K := X.K) w3 hv4
      obtain ⟨h1, h2⟩ := idx_firstD hi
      refine ⟨l, v3, d.toD i, xs.map d.toD, xs.idxOf i, d.toD i, rfl, rfl, p1, Dp.up w3.f (d.dp hv3), shaped_of l1 (Nat.le_trans (Nat.add_le_add_right (dptAll_of xs) 1) (Nat.add_le_add_right hdep 1)), shaped_of (d.lay hv3) (Nat.le_trans (d.dpt i) (Nat.le_succ_of_le hdep)), ?_, (d.eqv i i).mpr rfl, fun m z' hm hz => ?_, q F3 H3 _ (s2.trans s3) w3 rfl⟩
      · rw [List.getElem?_map, h1]; rfl
      · rw [List.getElem?_map] at hz
        cases q2 : xs[m]? with
        | none => rw [q2] at hz; cases hz
        | some y =>
          rw [q2] at hz; cases hz
          have ne := h2 m y hm q2
          cases q3 : PyData.eqv (d.toD y) (d.toD i) with
          | false => rfl
          | true => exact absurd ((d.eqv y i).mp q3) ne)
/-! the handled exception, which has a dict -/
def rIsXd (K : PySem.W.Frag) (B a dd : Addr) (fs : List (Str × V)) : List V → Hp → VK → Prop := fun xs H Q => ∃ (c : V) (cv : Value) (b : Bool), xs = [.ref a, c] ∧ (∀ u, RelV c u → u = cv) ∧ PySem.W.kitOne K (.ref B) cv = some b ∧ H dd = some (.xd fs) ∧ Q (.bl b) H
omit [Lams] in
theorem call_isXd {x : Addr × Obj} {B dd : Addr} {fs : List (Str × V)} (C : ExcC X.K B) (hx : x ∈ X.pn) (hz : Zc (.ref B) (some dd) x.2) (hf : ∃ vs, x.2.data = .fields vs) : CallR X (.builtin "isinstance") (rIsXd X.K B x.1 dd fs) := by
  intro pins s σ H xs us Q I rv h
  obtain ⟨c, cv, b, rfl, hcv, e, hdd, q⟩ := h
  obtain ⟨u1, u2, rfl, r1, r2⟩ := vals2 rv
  obtain rfl : u1 = Value.ref x.1 := r1
  obtain rfl := hcv _ r2
  have hp := (I.pin x (List.mem_append_left _ hx)).1
  obtain ⟨vs, hd⟩ := hf
  have hxd : ObjOk X.prog X.w H s.heap dd (.xd fs) := I.hok dd _ hdd
  obtain ⟨mA, hns, hr⟩ := hxd
  obtain ⟨od, ho, _⟩ := lookIn_ns hns
  have J : PySem.W.InstAt s.heap x.1 x.2 B (some od) := ⟨hp, hz.1, by unfold PySem.W.notCls; rw [hd] <;> rfl, by rw [hz.2]; exact ho⟩
  have hcl : (PySem.W.clsIn X.K B).isSome = true := by
    obtain ⟨cd, hc, _⟩ := PySem.W.any_some C.hd
    rw [hc]; rfl
  exact PySem.W.kia_one (PySem.W.kitx_exc hcl C.hg C.hk C.hs C.ha C.hn C.ht C.hm) I.kIn J e (fun z => nomatch z) fun tk => ⟨.bl b, H, I.kept (t' := tk) fun _ _ z => z, rfl, q⟩
theorem bx_isXdo {x : Addr × Obj} {B C0 dd : Addr} {fs : List (Str × V)} {y : Bool} {cn en : Str} {pe pc' : Pos} (i : Nat) (C : ExcC X.K B) (hx : x ∈ X.pn) (hz : Zc (.ref B) (some dd) x.2) (hf : ∃ vs, x.2.data = .fields vs) (hdd : F dd = some (.xd fs)) (hm : X.mg "isinstance" = none) (hs : σ[i]? = some (some (.ref x.1)))
    (hcm : X.mg cn = some (.ref C0)) (hk : PySem.W.kitOne X.K (.ref B) (.ref C0) = some y) (hcg : Gl X cn := by rfl) (hcd2 : (cn == ("__debug__" : Str)) = false := by decide) (hg : Gl X "isinstance" := by rfl) (hN : X.N[i]? = some en := by rfl) (hv : Vis X.env.scope en := by first | exact Or.inl rfl | exact Or.inr (Or.inl rfl) | exact Or.inr (Or.inr rfl)) (hd : (en == ("__debug__" : Str)) = false := by decide) (hcd : (en == ("__classdict__" : Str)) = false := by decide)
    (he : starEach [.Name en pe, .Name cn pc'] X.env = (false, eval (.Name en pe) X.env) :: starEach [.Name cn pc'] X.env := by rfl) (he2 : starEach [.Name cn pc'] X.env = (false, eval (.Name cn pc') X.env) :: starEach [] X.env := by rfl) (hpl : (backTo pos (starEach [.Name cn pc'] X.env)).any (·.1) = false := by rfl)
    (ht : ∀ whole, isTrue (.Call (.Name "isinstance" p) [.Name en pe, .Name cn pc'] [] pos) X.env whole = (do let v ← whole; standAt (Expr.Call (.Name "isinstance" p) [.Name en pe, .Name cn pc'] [] pos).pos; holding [v] (truthy v)) := by intro _; rfl) : Bx X (.Call (.Name "isinstance" p) [.Name en pe, .Name cn pc'] [] pos) σ F M y :=
  bx_val (fun F1 H1 s w Q q => we_of (pe_callB (call_isXd C hx hz hf) hg hm (by decide +kernel) (pa_cons (pe_var hN hv hd hcd) (pa_cons (pe_glob (v := .ref C0) hcg hcm rfl hcd2) pa_nil he2) he) (he := he) (hpl := hpl)) ⟨_, hs, .ref C0, .ref C0, y, rfl, fun u z => z, hk, w.f _ _ (s _ _ hdd), q F1 H1 _ (Same.refl _) w rfl⟩) ht
theorem bx_isXdb {x : Addr × Obj} {B dd : Addr} {fs : List (Str × V)} {y : Bool} {S : String} {cn en : Str} {pe pc' : Pos} (i : Nat) (C : ExcC X.K B) (hx : x ∈ X.pn) (hz : Zc (.ref B) (some dd) x.2) (hf : ∃ vs, x.2.data = .fields vs) (hdd : F dd = some (.xd fs)) (hm : X.mg "isinstance" = none) (hs : σ[i]? = some (some (.ref x.1)))
    (hcm : X.mg cn = none) (hb : bootBuiltins cn = some (.type S)) (hk : PySem.W.kitOne X.K (.ref B) (.type S) = some y) (hcg : Gl X cn := by rfl) (hcd2 : (cn == ("__debug__" : Str)) = false := by decide) (hcn : cn ≠ "__name__" := by decide) (hg : Gl X "isinstance" := by rfl) (hN : X.N[i]? = some en := by rfl) (hv : Vis X.env.scope en := by first | exact Or.inl rfl | exact Or.inr (Or.inl rfl) | exact Or.inr (Or.inr rfl)) (hd : (en == ("__debug__" : Str)) = false := by decide) (hcd : (en == ("__classdict__" : Str)) = false := by decide)
    (he : starEach [.Name en pe, .Name cn pc'] X.env = (false, eval (.Name en pe) X.env) :: starEach [.Name cn pc'] X.env := by rfl) (he2 : starEach [.Name cn pc'] X.env = (false, eval (.Name cn pc') X.env) :: starEach [] X.env := by rfl) (hpl : (backTo pos (starEach [.Name cn pc'] X.env)).any (·.1) = false := by rfl)
    (ht : ∀ whole, isTrue (.Call (.Name "isinstance" p) [.Name en pe, .Name cn pc'] [] pos) X.env whole = (do let v ← whole; standAt (Expr.Call (.Name "isinstance" p) [.Name en pe, .Name cn pc'] [] pos).pos; holding [v] (truthy v)) := by intro _; rfl) : Bx X (.Call (.Name "isinstance" p) [.Name en pe, .Name cn pc'] [] pos) σ F M y :=
  bx_val (fun F1 H1 s w Q q => we_of (pe_callB (call_isXd C hx hz hf) hg hm (by decide +kernel) (pa_cons (pe_var hN hv hd hcd) (pa_cons (pe_bltn (v := .ty S) hcg hcm hb rfl hcn hcd2) pa_nil he2) he) (he := he) (hpl := hpl)) ⟨_, hs, .ty S, .type S, y, rfl, fun u z => z, hk, w.f _ _ (s _ _ hdd), q F1 H1 _ (Same.refl _) w rfl⟩) ht
/-- n.f, n the handled exception -/
theorem ev_xf {a C dd : Addr} {oe : Obj} {pn : List (Addr × Obj)} {fs : List (Str × V)} {v : V} {y : α} {f en : Str} {pe : Pos} [m : Mono r] (i : Nat) (T : XfC X.K C) (hno : PySem.W.findIn X.K (.ref C) f = some none) (hz : Zc (.ref C) (some dd) oe) (hf : ∃ vs, oe.data = .fields vs) (hdd : F dd = some (.xd fs)) (hl : fs.lookup f = some v) (hr : r F v y) (hs : σ[i]? = some (some (.ref a)))
    (hN : (X.suite a ((a, oe) :: pn)).N[i]? = some en := by rfl) (hv : Vis (X.suite a ((a, oe) :: pn)).env.scope en := by first | exact Or.inl rfl | exact Or.inr (Or.inl rfl) | exact Or.inr (Or.inr rfl)) (hd : (en == ("__debug__" : Str)) = false := by decide) (hcd : (en == ("__classdict__" : Str)) = false := by decide)
    (hb : attributeBase (.Name en pe) f X.env (eval (.Name en pe) X.env) = eval (.Name en pe) X.env := by rfl) :
    EvF (X.suite a ((a, oe) :: pn)) (.Attribute (.Name en pe) f pos) σ F M r y :=
  fun F1 H1 s w Q q => we_of (pe_xf T hno hz hf (pe_var hN hv hd hcd) hb) ⟨_, hs, rfl, rfl, dd, fs, v, rfl, w.f _ _ (s _ _ hdd), hl, q F1 H1 v (Same.refl _) w (Mono.mono s hr)⟩
end
end Y

/-! ### min by a lambda of one name, with a default -/
namespace Y
open PySem PySem.Spec PyProof.Rows L2
theorem reads_ints {h : Heap} : ∀ {vs : List Value} {ns : List Int}, IntsAre vs ns → ReadsAll h vs (ns.map PyData.int) []
  | _, _, .nil => .nil
  | _, _, .cons x t r => ReadsAll.cons (as := []) (bs := []) (.int _ _) (reads_ints r)
theorem tupI_reads {h : Heap} {v : Value} {ns : List Int} (q : IsTupI h v ns) : Reads h v (.tuple (ns.map PyData.int)) [] := by
  obtain ⟨a, o, its, n, rfl, ho, hc, hd, hi⟩ := q
  exact .tuple ho hc hd (by rw [List.toList_toArray]; exact reads_ints hi)
theorem dataLt_ints {ns ms : List Int} (h : ns.length = ms.length) : PySem.W.dataLt (.tuple (ns.map PyData.int)) (.tuple (ms.map PyData.int)) = HT.lexLt ns ms := keys_lex h
/-- what is told is a new tuple of these ints, and all that stood stands -/
def KeyTup (ns : List Int) (s₁ : Shared) (v : Value) (s₂ : Shared) : Prop := ∃ h' tk a, s₂ = { s₁ with heap := h', toks := tk } ∧ (∀ b o, s₁.heap.get? b = some o → h'.get? b = some o) ∧ v = .ref a ∧ s₁.heap.objs.size ≤ a ∧ IsTupI h' v ns
section
variable {P : Program} {w : World} {A : Around} {env : Env} {e a b c : Expr} {i j k : Int} {pos : Pos} {s : Shared}
theorem tup_new {s : Shared} {vs : List Value} {ns : List Int} {tk : Nat} (hi : IntsAre vs ns) : KeyTup ns s (.ref s.heap.objs.size) { s with heap := s.heap.push { cls := .type "tuple", data := .seq vs.toArray }, toks := tk } :=
  ⟨_, _, _, rfl, fun b o e => Heap.get?_push_of_some _ e, rfl, Nat.le_refl _, ⟨_, _, vs, _, rfl, Heap.get?_push_size _ rfl, rfl, rfl, hi⟩⟩
theorem rawT2 {x1} (ha : RawI P w A env s.heap a i) (hb : RawI P w A env s.heap b j) (he : backTo pos (starEach [a, b] env) = [(false, eval a env), (false, eval b env)] := by rfl) :
    wpAny (model P w) A (eval (.Tuple [a, b] x1 pos) env) (KeyTup [i, j] s) (fun _ _ => False) s := by
  refine wpAny_Tuple_spliced ?_
  rw [he]
  refine Calls.spliced_cons (ha s _ _ rfl fun t1 k1 => Calls.spliced_cons (hb _ _ _ rfl fun t2 k2 => Calls.spliced_nil ⟨show 2 ≤ sizeLine from by decide, ?_⟩))
  exact tup_new (s := s) (.cons _ _ (.cons _ _ .nil))
theorem rawT3 {x1} (ha : RawI P w A env s.heap a i) (hb : RawI P w A env s.heap b j) (hc : RawI P w A env s.heap c k) (he : backTo pos (starEach [a, b, c] env) = [(false, eval a env), (false, eval b env), (false, eval c env)] := by rfl) :
    wpAny (model P w) A (eval (.Tuple [a, b, c] x1 pos) env) (KeyTup [i, j, k] s) (fun _ _ => False) s := by
  refine wpAny_Tuple_spliced ?_
  rw [he]
  refine Calls.spliced_cons (ha s _ _ rfl fun t1 k1 => Calls.spliced_cons (hb _ _ _ rfl fun t2 k2 => Calls.spliced_cons (hc _ _ _ rfl fun t3 k3 => Calls.spliced_nil ⟨show 3 ≤ sizeLine from by decide, ?_⟩)))
  exact tup_new (s := s) (.cons _ _ (.cons _ _ (.cons _ _ .nil)))
end
section
variable {P : Program} {w : World} {A : Around} {n qual : Str} {params : Arguments} {body : Expr} {scope : Scope} {f c' : Addr} {pm ctv v : Value} {k : List Int} {s : Shared}
theorem lam_runT (L : Lam1 n scope) (hf : s.heap.get? f = some (PySem.W.kla_obj "<lambda>" qual params body scope [] pm c' ctv)) (hcd : s.heap.CodeRec (.ref c') qual) (hroom : A.depth < recursionLimit) (hl : s.heap.NoLimit)
    (hbind : bindArgs (PySem.W.kla_fn "<lambda>" qual params body scope [] pm (.ref c') ctv) ⟨[v], []⟩ = pure [(n, v)])
    (h : ∀ h₁ tk, (∀ b o, s.heap.get? b = some o → h₁.get? b = some o) → h₁.Ns s.heap.objs.size (fun y => [(n, v)].reverse.lookup y) →
      wpAny (model P w) (A.deeper (PySem.W.envX qual scope s.heap.objs.size f (.ref c') [])) (eval body (PySem.W.envX qual scope s.heap.objs.size f (.ref c') [])) (KeyTup k { s with heap := h₁, toks := tk }) (fun _ _ => False) { s with heap := h₁, toks := tk }) :
    wpAny (model P w) A (call (.ref f) [v]) (KeyTup k s) (fun _ _ => False) s := by
  refine wpAny_call (PySem.W.kla_callFunE hroom hf rfl L.co L.gen rfl hcd ?_)
  rw [hbind]
  refine wpAny_pure (wpAny_newFunctionEnv L.nocell (fun y hy => by rw [List.mem_singleton] at hy; rw [hy]; exact L.loc) (fun h₁ hns hsb => ⟨hl.fresh _ hsb, ?_⟩) L.kind)
  show codeAny _ _ (.expr body (PySem.W.envX qual scope s.heap.objs.size f (.ref c') [])) _ _
  have hk₁ : ∀ b o, s.heap.get? b = some o → h₁.get? b = some o := fun b o e => hsb.extBut b o (Nat.ne_of_lt (Heap.lt_size e)) (Heap.get?_push_of_some _ e)
  refine PySem.W.kla_codeExpr (wpAny_mono (h h₁ _ hk₁ hns) (fun u s' hq => ?_) fun _ _ z => z.elim)
  obtain ⟨h', tk, a, rfl, kp, e, hn, r⟩ := hq
  obtain ⟨oL, _, _, hoL, _⟩ := hns
  exact ⟨h', tk, a, rfl, fun b o e => kp _ _ (hk₁ _ _ e), e, Nat.le_trans (Nat.le_of_lt (Heap.lt_size hoL)) hn, r⟩
end
section
variable {prog : Program} {w : World} {A : Around} {E : Value → Shared → Prop} {s : Shared}
theorem min_keyI {l q : Addr} {vs : Array Value} {d : Value} {keys : List (List Int)} {m : Nat} {Q : Value → Shared → Prop} (hh : A.handled = none) (hl : s.heap.IsList l vs) (hn : keys.length = vs.size) (hm : ∀ k ∈ keys, k.length = m) (hu : A.units + 1 + 8 < cLine)
    (turn : ∀ (i : Nat) (v : Value), vs[i]? = some v → ∀ (h : Heap) (tk : Nat), (∀ b o, s.heap.get? b = some o → h.get? b = some o) →
      wpAny (model prog w) A.in1 (call (.ref q) [v]) (KeyTup (keys.getD i []) { s with heap := h, toks := tk }) (fun _ _ => False) { s with heap := h, toks := tk })
    (h0 : vs.size = 0 → ∀ h' tk, (∀ b o, s.heap.get? b = some o → h'.get? b = some o) → Q d { s with heap := h', toks := tk })
    (h : 0 < vs.size → ∀ v h' tk, vs[argBest (fun i j => HT.lexLt (keys.getD i []) (keys.getD j [])) (vs.size - 1)]? = some v → (∀ b o, s.heap.get? b = some o → h'.get? b = some o) → Q v { s with heap := h', toks := tk }) :
    wpAny (model prog w) A (call (.builtin "min") [.ref l] [(Str.ofString "key", .ref q), (Str.ofString "default", d)]) Q E s := by
  refine call_min_walkKD (PySem.W.iter_listW (A := A.in1) hh hl fun s₂ e W st hfp hw hk => ?_)
  have eS : s₂.heap.objs.size = s.heap.objs.size + 1 := by rw [e]; exact Heap.size_push _ _
  let J : Shared → Prop := fun s' => ∃ h' tk, s' = { s with heap := h', toks := tk } ∧ ∀ b o, s.heap.get? b = some o → h'.get? b = some o
  let V : Nat → Value → Shared → Prop := fun i k s' => i < vs.size ∧ IsTupI s'.heap k (keys.getD i []) ∧ ∀ a, k = .ref a → a ≠ s₂.heap.objs.size ∧ a ≠ s.heap.objs.size
  have klen : ∀ i, i < vs.size → (keys.getD i []).length = m := fun i hi => by
    have hi2 : i < keys.length := by omega
    rw [List.getD_eq_getElem?_getD, List.getElem?_eq_getElem hi2]
    exact hm _ (List.getElem_mem hi2)
  refine ⟨_, _, _, _, _, _, _, J, V, (fun i j => HT.lexLt (keys.getD i []) (keys.getD j [])), rfl, W, st, hfp, ⟨fun a b hJ mv => ?_, fun i k a b hV mv => ?_, fun i v s1 o Q1 E1 hi hv hJ hSt hS hq => ?_, fun i j ki kj s1 Q1 E1 hJ h1 h2 hq => ?_⟩, ?_, fun hz s' hJ => ?_, fun hp v s' hP hJ => ?_⟩
  · obtain ⟨h', tk, rfl, kp⟩ := hJ
    refine ⟨b.heap, b.toks, ?_, fun x o ho => mv.heap x o (fun hx => ?_) (kp x o ho)⟩
    · obtain ⟨hp, g, dr, tk', os⟩ := b
      have h1 : g = s.gens := mv.gens
      have h2 : dr = s.drawn := mv.drawn
      have h3 : os = s.os := mv.os
      subst h1 h2 h3; rfl
    · have hlt := Heap.lt_size ho
      rcases List.mem_cons.mp hx with hx | hx
      · rw [hx, eS] at hlt; exact absurd hlt (Nat.not_lt_of_le (Nat.le_succ _))
      · rw [List.mem_singleton] at hx; rw [hx] at hlt; exact absurd hlt (Nat.lt_irrefl _)
  · obtain ⟨hi, ⟨ad, o, its, n, rfl, ho, hc, hd, hI⟩, hne⟩ := hV
    refine ⟨hi, ⟨ad, o, its, n, rfl, mv.heap _ _ (fun hx => ?_) ho, hc, hd, hI⟩, hne⟩
    have := hne ad rfl
    rcases List.mem_cons.mp hx with hx | hx
    · exact this.1 hx
    · rw [List.mem_singleton] at hx; exact this.2 hx
  · obtain ⟨h1, tk1, rfl, kp1⟩ := hJ
    refine wpAny_mono (turn i v hv h1 tk1 kp1) (fun k s2 hk2 => ?_) fun _ _ z => z.elim
    obtain ⟨h2, tk2, a, rfl, kp2, rfl, hna, hT⟩ := hk2
    obtain ⟨⟨oi, hoi, hci, hdi⟩, ⟨ol, hol, hrl⟩⟩ := hSt
    refine hq _ _ ⟨h2, tk2, rfl, fun b o ho => kp2 _ _ (kp1 _ _ ho)⟩ ⟨⟨oi, kp2 _ _ hoi, hci, hdi⟩, ⟨ol, kp2 _ _ hol, hrl⟩⟩ (kp2 _ _ hS) ⟨hi, hT, fun b eb => ?_⟩ fun j k' hV => ?_
    · cases eb
      exact ⟨fun z => by rw [z] at hna; exact absurd (Heap.lt_size hS) (Nat.not_lt_of_le hna), fun z => by rw [z] at hna; exact absurd (Heap.lt_size hoi) (Nat.not_lt_of_le hna)⟩
    · obtain ⟨hj, ⟨ad, o2, its, n, e1, ho, hc, hd, hI⟩, hne⟩ := hV
      exact ⟨hj, ⟨ad, o2, its, n, e1, kp2 _ _ ho, hc, hd, hI⟩, hne⟩
  · obtain ⟨hi, t1, _⟩ := h1
    obtain ⟨hj, t2, _⟩ := h2
    have el : (keys.getD i []).length = (keys.getD j []).length := (klen i hi).trans (klen j hj).symm
    refine PySem.W.rcLt_alike _ _ A.in1 s1 ki kj _ _ (tupI_reads t1) (tupI_reads t2) ?_ (fun z => nomatch z) ?_ prog w E1 Q1 ?_
    · rw [PySem.W.alike]; exact alike_ints _ _
    · have d1 := depth_ints (keys.getD i [])
      have d2 := depth_ints (keys.getD j [])
      rw [PyData.depth, PyData.depth]
      show A.units + 1 + _ < _
      omega
    · rw [dataLt_ints el]; exact hq
  · exact ⟨s₂.heap, s₂.toks, by rw [e], hk⟩
  · obtain ⟨h', tk, rfl, kp⟩ := hJ
    exact h0 hz h' tk kp
  · obtain ⟨h', tk, rfl, kp⟩ := hJ
    exact h hp v h' tk hP kp
end
/-- the lambda's body tells a new tuple, told of raw tuples of ints -/
def LamBodyT (P : Program) (w : World) (qual : Str) (n : Str) (scope : Scope) (body : Expr) {α : Type} (row key : α → List Int) (G : Heap → Prop) : Prop :=
  ∀ (A : Around) (s : Shared) (L f c' : Addr) (v : Value) (x : α), A.depth < recursionLimit → IsTupI s.heap v (row x) → s.heap.Ns L (fun y => [(n, v)].reverse.lookup y) → G s.heap →
    wpAny (model P w) A (eval body (PySem.W.envX qual scope L f (.ref c') [])) (KeyTup (key x) s) (fun _ _ => False) s
def mnK {α : Type} (key : α → List Int) (d : α) : List α → α
  | [] => d
  | x :: t => t.foldl (fun a y => if HT.lexLt (key y) (key a) = true then y else a) x
theorem best_mnK {α : Type} {key : α → List Int} {d : α} {xs : List α} (h : 0 < xs.length) : xs[argBest (fun i j => HT.lexLt ((xs.map key).getD i []) ((xs.map key).getD j [])) (xs.length - 1)]? = some (mnK key d xs) := by
  cases xs with
  | nil => cases h
  | cons x t =>
    have hb := PySem.W.argBest_fold (fun a b => HT.lexLt (key a) (key b)) x x t t.length (Nat.le_refl _)
    have e : (fun i j => HT.lexLt (((x :: t).map key).getD i []) (((x :: t).map key).getD j [])) = (fun i j => HT.lexLt (((x :: t).map key).getD i []) (((x :: t).map key).getD j [])) := rfl
    rw [List.take_length] at hb
    have he : ∀ k, k ≤ t.length → argBest (fun i j => HT.lexLt (((x :: t).map key).getD i []) (((x :: t).map key).getD j [])) k = argBest (fun i j => HT.lexLt (key ((x :: t).getD i x)) (key ((x :: t).getD j x))) k := by
      intro k
      induction k with
      | zero => intro _; rfl
      | succ k ih =>
        intro hk
        have e1 := ih (by omega)
        have hle := (PySem.W.argBest_fold (fun a b => HT.lexLt (key a) (key b)) x x t k (by omega)).1
        have g : ∀ i, i ≤ t.length → ((x :: t).map key).getD i [] = key ((x :: t).getD i x) := fun i hi => by
          have hl : i < (x :: t).length := by rw [List.length_cons]; omega
          rw [List.getD_eq_getElem?_getD, List.getD_eq_getElem?_getD, List.getElem?_map, List.getElem?_eq_getElem hl]; rfl
        unfold argBest
        rw [e1, g _ hk, g _ (by omega)]
    rw [List.length_cons, Nat.add_sub_cancel, he _ (Nat.le_refl _)]
    have hl : argBest (fun i j => HT.lexLt (key ((x :: t).getD i x)) (key ((x :: t).getD j x))) t.length < (x :: t).length := by rw [List.length_cons]; have := hb.1; omega
    rw [List.getElem?_eq_getElem hl]
    have h2 := hb.2
    rw [List.getD_eq_getElem?_getD, List.getElem?_eq_getElem hl] at h2
    congr 1
theorem vals_get : ∀ {ws : List V} {its : List Value} {i : Nat} {v : Value}, Vals ws its → its[i]? = some v → ∃ y, ws[i]? = some y ∧ RelV y v
  | _, _, _, _, .nil, h => by cases h
  | _, _, 0, _, .cons r _, h => by cases h; exact ⟨_, rfl, r⟩
  | _, _, i + 1, _, .cons _ t, h => by
    obtain ⟨y, h1, h2⟩ := vals_get (i := i) t (by simpa using h)
    exact ⟨y, by simpa using h1, h2⟩
theorem lamb_step {P : Program} {w : World} {qual n : Str} {scope : Scope} {mg : Str → Option Value} {p1 p3 p5 q1 q2 q3 q4 q5 q6 q7 q8 pa pc pos : Pos} {j1 j2 j3 j4 : Nat} {x1} (L : Lam1 n scope) (hm : mg "abs" = none) (hx : scope.names.lookup ("abs" : Str) = some .globalImplicit) (hd : (n == ("__debug__" : Str)) = false := by decide) (he : ∀ env : Env, starEach [.Subscript (.Name n p3) (.Constant (.int 0) j2 q3) q4] env = (false, eval (.Subscript (.Name n p3) (.Constant (.int 0) j2 q3) q4) env) :: starEach [] env := by intro _; rfl) :
    LamBodyT P w qual n scope (.Tuple [.Subscript (.Name n p1) (.Constant (.int 1) j1 q1) q2, .Call (.Name "abs" pa) [.Subscript (.Name n p3) (.Constant (.int 0) j2 q3) q4] [] pc, .BinOp (.Constant (.int 0) j3 q5) .Sub (.Subscript (.Name n p5) (.Constant (.int 0) j4 q6) q7) q8] x1 pos) (TupI.key (r := t2R iR iR)) (fun x : Int × Int => [x.2, (if x.1 < 0 then -x.1 else x.1), 0 - x.1])
      (fun h => h.Ns mainGlobals mg ∧ ∃ mb, h.Ns builtinsNs mb ∧ ∀ x : Str, x ≠ "__name__" → mb x = bootBuiltins x) := by
  intro A s Lc f c' v x hA ht hns hG
  obtain ⟨l, o, its, k, rfl, ho, hc, hdt, hi⟩ := ht
  obtain ⟨hgl, mb, hb, hbb⟩ := hG
  have it : PyProof.Rows.IsTup s.heap l its.toArray := ⟨o, ho, hc, k, hdt⟩
  have hk : (PySem.W.envX qual scope Lc f (.ref c') []).scope.kind = .function := L.kind
  have hl : (PySem.W.envX qual scope Lc f (.ref c') []).kindOf n = some .local := L.loc
  have hv : (fun y => [(n, Value.ref l)].reverse.lookup y) n = some (.ref l) := by simp [List.lookup]
  obtain ⟨t1, h1⟩ := ints_at hi (k := 1) (i := x.2) rfl
  obtain ⟨t0, h0⟩ := ints_at hi (k := 0) (i := x.1) rfl
  have r0 : ∀ {p q1 q2 : Pos} {j : Nat}, RawI P w A (PySem.W.envX qual scope Lc f (.ref c') []) s.heap (.Subscript (.Name n p) (.Constant (.int 0) j q1) q2) x.1 := fun {p q1 q2 j} => raw_ix (k := 0) hk hl hns hv it (by rw [List.getElem?_toArray]; exact h0) (by decide) hd
  exact rawT3 (raw_ix (k := 1) hk hl hns hv it (by rw [List.getElem?_toArray]; exact h1) (by decide) hd) (raw_abs hk hx hgl hm hb (hbb _ (by decide)) r0 (he _)) (raw_sub raw_int r0)
section
variable [Lams] {X : Cx} {σ : L2.St} {F M H H2 : Hp} {a d1 d2 : Expr} {pos p p2 lpos kpos dpos tpos : Pos} {α : Type} {r : Rep α} {xs : List α} {n : Str} {params : Arguments} {body : Expr} {scope : Scope} {key : α → List Int}
/-- min(xs, key=lambda n: (..), default=(i, j)) -/
theorem ev_minLam {key : Int × Int → List Int} {xs : List (Int × Int)} {i j : Int} {kl : Nat} {x1} (hk : ∀ x, (key x).length = kl) (hkl : kl ≤ 6) (hm : X.mg "min" = none) (mk : Maker X) (L : Lam1 n scope) (hroom : Room 4 X.A) (hc : X.calm = true) (ha : EvF X a σ F M (rdR X.K M (t2R iR iR)) xs)
    (hlam : LamBodyT X.prog X.w (X.env.qual ++ "<lambda>") n scope body (TupI.key (r := t2R iR iR)) key (fun h => h.Ns mainGlobals X.mg ∧ ∃ mb, h.Ns builtinsNs mb ∧ ∀ x : Str, x ≠ "__name__" → mb x = bootBuiltins x))
    (h1 : ∀ h : Heap, RawI X.prog X.w X.A X.env h d1 i) (h2 : ∀ h : Heap, RawI X.prog X.w X.A X.env h d2 j)
    (hbind : ∀ (q : Str) (cl : List (Str × Addr)) (pm cv ctv v : Value), bindArgs (PySem.W.kla_fn "<lambda>" q params body scope cl pm cv ctv) ⟨[v], []⟩ = pure [(n, v)] := by exact fun _ _ _ _ _ _ => rfl)
    (hdef : defaultsOf params X.env = ([], []) := by rfl)
    (hg : Gl X "min" := by rfl) (he : starEach [a] X.env = (false, eval a X.env) :: starEach [] X.env := by rfl)
    (heb : backTo pos (starEach [a] X.env) = (false, eval a X.env) :: backTo pos (starEach [] X.env) := by rfl) (hpl : (backTo pos (starEach [a] X.env)).any (·.1) = false := by rfl)
    (hall : (backToKw pos (keywordEach [⟨some "key", .Lambda params body scope lpos, kpos⟩, ⟨some "default", .Tuple [d1, d2] x1 tpos, dpos⟩] X.env)).all (·.1.isSome) = true := by rfl) (hnone : (backToKw pos (keywordEach [⟨some "key", .Lambda params body scope lpos, kpos⟩, ⟨some "default", .Tuple [d1, d2] x1 tpos, dpos⟩] X.env)).any (·.1.isNone) = false := by rfl)
    (hks : (backToKw pos (keywordEach [⟨some "key", .Lambda params body scope lpos, kpos⟩, ⟨some "default", .Tuple [d1, d2] x1 tpos, dpos⟩] X.env)).filterMap (·.1) = [("key" : Str), ("default" : Str)] := by rfl)
    (hbt : backTo tpos (starEach [d1, d2] X.env) = [(false, eval d1 X.env), (false, eval d2 X.env)] := by rfl) :
    EvF X (.Call (.Name "min" p) [a] [⟨some "key", .Lambda params body scope lpos, kpos⟩, ⟨some "default", .Tuple [d1, d2] x1 tpos, dpos⟩] pos) σ F M (t2R iR iR) (mnK key (i, j) xs) := fun F1 H1 s1 w1 Q q => by
  intro pins st I
  refine wpAny_Call_Name_kw (ld_blt (u := .builtin "min") I hg hm (by decide +kernel) ?_)
  refine PyProof.Rows.callWith_kw (L2.thn ((pa_cons (pe_w a) pa_nil he).run pos pins st σ H1 (fun vs H2 => ∃ F2 v, vs = [v] ∧ Same F1 F2 ∧ Own F2 M H2 ∧ rdR X.K M (t2R iR iR) F2 v xs) I (ha F1 H1 s1 w1 _ fun F2 H2 v s2 w2 hv => ⟨F2, v, rfl, s2, w2, hv⟩)) fun us st1 ⟨vs, H2, I2, r2, F2, v, e2, s2, w2, l, ws, e3, hl, hA⟩ => ?_) heb hpl hall hnone
  rw [hks]
  subst e2 e3
  obtain ⟨u, rfl, ru⟩ := vals1 r2
  obtain rfl : u = Value.ref l := ru
  show wpAny _ _ (evalAll ((do let v ← eval (.Lambda params body scope lpos) X.env; standAt pos; pure v) :: (do let v ← eval (.Tuple [d1, d2] x1 tpos) X.env; standAt pos; pure v) :: [])) _ _ _
  obtain ⟨c, P, TB, hcode, hmem, huq⟩ := mk.ex
  refine wpAny_evalAll_cons (wpAny_bind (LamX.lam_make2 I2 TB hcode hmem huq w2.b hdef (fun y hy e => absurd e (L.nofree y hy)) fun f c' pm ctv H3 st3 I3 eN T3 hf hfn hfr hco => wpAny_bind (wpAny_standAt (wpAny_pure ?_))))
  have ecl : cloFrom X.env.cells scope.names [] = [] := by
    cases q : cloFrom X.env.cells scope.names [] with
    | nil => rfl
    | cons y ys =>
      have hy : y ∈ cloFrom X.env.cells scope.names [] := by rw [q]; exact List.mem_cons_self
      rcases cloFrom_mem (n := y.1) (c := y.2) hy with z | ⟨z, _⟩
      · cases z
      · exact absurd rfl (L.nofree _ z)
  rw [ecl] at hf
  have w3 := w2.extN eN T3
  obtain ⟨its, rv, hL, hz⟩ := I3.list (w3.sq hl)
  refine wpAny_evalAll_cons (wpAny_bind (wpAny_mono (rawT2 (h1 _) (h2 _) hbt) (fun dv st4 hd => ?_) fun _ _ z => z.elim))
  obtain ⟨h4, tk4, ad, rfl, kp4, rfl, hna, hdt⟩ := hd
  refine wpAny_bind (wpAny_standAt (wpAny_pure (wpAny_evalAll_nil ?_)))
  have hun := hroom.units
  have hlen : xs.length = its.toArray.size := by rw [List.size_toArray, ← hA.len]; exact rv.length
  have hat : ∀ (i : Nat) (v : Value), its.toArray[i]? = some v → ∃ y x, xs[i]? = some x ∧ RelV y v ∧ t2R iR iR F2 y x := fun i v hv => by
    rw [List.getElem?_toArray] at hv
    obtain ⟨y, h1, h2⟩ := vals_get rv hv
    obtain ⟨x, h3, h4⟩ := hA.getL h1
    exact ⟨y, x, h3, h2, h4⟩
  obtain ⟨ol, hol, hrl⟩ := hL.isList
  refine min_keyI (keys := xs.map key) (m := kl) hroom.hd ⟨ol, kp4 _ _ hol, hrl⟩ (by rw [List.length_map]; exact hlen) (fun k hkm => ?_) (by omega) (fun i v hv h tk kp => ?_) (fun h0 h' tk kp => ?_) fun hp v h' tk hv kp => ?_
  · obtain ⟨x, _, rfl⟩ := List.mem_map.mp hkm
    exact hk x
  · obtain ⟨y, x, hx, ry, rx⟩ := hat i v hv
    rw [List.getD_eq_getElem?_getD, List.getElem?_map, hx]
    obtain ⟨u, rfl, ht⟩ := TupI.tup (r := t2R iR iR) rx
    obtain rfl : v = Value.ref u := ry
    obtain ⟨_, its2, rr, o, ho, hc, n2, hd⟩ := I3.hok _ _ (w3.f _ _ ht)
    have cr := codeRec_ext I3.hok hco
    have nl : st3.heap.NoLimit := I3.nolimit
    have kp5 : ∀ b o, st3.heap.get? b = some o → h.get? b = some o := fun b o e => kp _ _ (kp4 _ _ e)
    refine lam_runT L (kp5 _ _ hf) ?_ hroom.in1.depth (nl.keeps kp5) (hbind _ _ _ _ _ _) fun h₁ tk2 kp2 hns => ?_
    · obtain ⟨c1, oc, vs, t1, e1, e2, e3, e4⟩ := cr
      exact ⟨c1, oc, vs, t1, e1, kp5 _ _ e2, e3, e4⟩
    · have kk : ∀ b o, st3.heap.get? b = some o → h₁.get? b = some o := fun b o e => kp2 _ _ (kp5 _ _ e)
      refine hlam _ _ _ _ _ _ _ (hroom.in1.deeper _).depth ⟨u, o, its2, n2, rfl, kk _ _ ho, hc, hd, rr.ints⟩ hns ⟨?_, ?_⟩
      · exact (I3.ok.mod.glob.keeps I3.bk).keeps kk
      · obtain ⟨mb, h1, h2⟩ := I3.ok.mod.blt
        exact ⟨mb, (h1.keeps I3.bk).keeps kk, h2⟩
  · have ex : xs = [] := List.eq_nil_of_length_eq_zero (by omega)
    subst ex
    have hn : H3 ad = none := I3.hok.fresh hna
    obtain ⟨a2, o, its2, n2, e2, ho, hc, hd, hi⟩ := hdt
    cases e2
    have rv2 : Vals [V.int i, V.int j] its2 := vals_of_ints (ns := [i, j]) hi
    exact ⟨.ref ad, upd H3 ad (.tup [.int i, .int j]), I3.laid (t' := tk) (fun b o e => kp _ _ (kp4 _ _ e)) hna ⟨by show 2 ≤ sizeLine; decide, its2, rv2, o, kp _ _ ho, hc, n2, hd⟩, rfl,
      q (upd F2 ad (.tup [.int i, .int j])) _ _ (s2.trans (same_new (w3.noF hn))) (w3.newF hn) ⟨ad, _, _, rfl, upd_same, rfl, rfl⟩⟩
  · obtain ⟨y, x, hx, ry, rx⟩ := hat _ v hv
    have e5 := best_mnK (key := key) (d := (i, j)) (xs := xs) (by omega)
    rw [hlen] at e5
    have e6 : x = mnK key (i, j) xs := Option.some.inj (hx.symm.trans e5)
    subst e6
    exact ⟨y, H3, I3.kept (t' := tk) fun b o e => kp _ _ (kp4 _ _ e), ry, q F2 H3 y s2 w3 rx⟩
end
end Y

/-! ### range(i, j, 2) -/
namespace Y
open PySem PySem.Spec PyProof.Rows L2
/-- lo, lo + c, .., so many -/
def rngS (lo c : Int) (n : Nat) : List Int := (List.range n).map fun (k : Nat) => lo + (k : Int) * c
theorem rngS_len {lo c : Int} {n : Nat} : (rngS lo c n).length = n := by unfold rngS; simp
theorem rngS_get {lo c : Int} {n i : Nat} : (rngS lo c n)[i]? = if i < n then some (lo + (i : Int) * c) else none := by
  unfold rngS
  rw [List.getElem?_map]
  by_cases h : i < n
  · rw [if_pos h, List.getElem?_range h]; rfl
  · rw [if_neg h, List.getElem?_eq_none (by simpa using h)]; rfl
theorem rngS_at {lo c : Int} {n i : Nat} {k : Int} (h : (rngS lo c n)[i]? = some k) : i < n ∧ k = lo + (i : Int) * c := by
  rw [rngS_get] at h
  by_cases hh : i < n
  · rw [if_pos hh] at h; cases h; exact ⟨hh, rfl⟩
  · rw [if_neg hh] at h; cases h
theorem yields_s [Lams] {F : Hp} {lo c : Int} {n : Nat} : Yields F (Itc lo c n) iR (rngS lo c n) := fun i F3 M3 H3 s3 w3 =>
  ⟨fun hi => by rw [rngS_len] at hi; exact hi, fun x hx => by
    rw [rngS_get] at hx
    by_cases h : i < n
    · rw [if_pos h] at hx
      cases hx
      refine ⟨h, fun v H' hy => ?_⟩
      obtain ⟨rfl, rfl⟩ := hy
      exact ⟨F3, Same.refl _, w3, rfl⟩
    · rw [if_neg h] at hx; cases hx⟩
theorem rgC_two {i j : Int} (ha : 0 ≤ i) (ha' : i < 2 ^ 30) (hb : 0 ≤ j) (hb' : j < 2 ^ 30) : RgC i j 2 ((j - i + 1) / 2).toNat := by
  refine ⟨by decide, by decide, ?_, ?_⟩
  · unfold Builtin.Range.small Builtin.Range.rangeSize; simp only [Builtin.Range.rangeFitsLong, Bool.and_eq_true, Bool.or_eq_true, decide_eq_true_eq, beq_iff_eq, show ((2 : Int) > 0) by decide, if_true]; split <;> omega
  · unfold Builtin.Range.rangeSize; simp; omega
section
variable [Lams] {X : Cx} {σ : L2.St} {F M H : Hp} {a b c e : Expr} {pos p : Pos}
theorem ei_range3s {tg : Expr} {i j : Int} {q1 : Pos} {kk} (hm : X.mg "range" = none) (ha : EvF X a σ F M iR i) (hb : EvF X b σ F M iR j) (hj : 0 ≤ i ∧ i < 2 ^ 30 ∧ 0 ≤ j ∧ j < 2 ^ 30) (hg : Gl X "range" := by rfl)
    (hs : starEach [a, b, .Constant (.int 2) kk q1] X.env = (false, eval a X.env) :: starEach [b, .Constant (.int 2) kk q1] X.env := by rfl) (hs2 : starEach [b, .Constant (.int 2) kk q1] X.env = (false, eval b X.env) :: starEach [.Constant (.int 2) kk q1] X.env := by rfl)
    (hs3 : starEach [.Constant (.int 2) kk q1] X.env = (false, eval (.Constant (.int 2) kk q1) X.env) :: starEach [] X.env := by rfl) (hpl : (backTo pos (starEach [b, .Constant (.int 2) kk q1] X.env)).any (·.1) = false := by rfl) :
    EvI X tg (.Call (.Name "range" p) [a, b, .Constant (.int 2) kk q1] [] pos) σ F M iR (rngS i 2 ((j - i + 1) / 2).toNat) :=
  fun F1 H1 s w R q => wi_of (pi_range3 hg hm (pa_cons (pe_w a) (pa_cons (pe_w b) (pa_cons (pe_w _) pa_nil hs3) hs2) hs) hs hpl) (ha F1 H1 s w _ fun F2 H2 v s2 w2 hv => hb F2 H2 (s.trans s2) w2 _ fun F3 H3 u s3 w3 hu =>
    ev_int F3 H3 ((s.trans s2).trans s3) w3 _ fun F4 H4 z s4 w4 hz =>
    ⟨i, j, 2, _, by rw [show v = V.int i from hv, show u = V.int j from hu, show z = V.int 2 from hz], rgC_two hj.1 hj.2.1 hj.2.2.1 hj.2.2.2, q F4 H4 _ ((s2.trans s3).trans s4) w4 yields_s⟩)
end
end Y

/-! ### parts, told by mirrors -/
namespace Y
open PySem PySem.Spec PyProof.Rows L2
/-- an __init__ of a kind of part: what it makes -/
def PSp [Lams] (xa : XA) (pc : PKind → Addr) (kk : PKind) {α : Type} (A : AR α) (m : α → Rs PT) : Sp :=
  FSpI (fun C => C = pc kk) A (fun x => m x ≠ .bad) (fun x F fs => ∃ t : PT, m x = .ok t ∧ t.k = kk ∧ PMade pc F fs t) (fun x F c d => ∃ e, m x = .ex e () ∧ exR xa e F c d)
/-- the base's __init__ -/
def PSpB [Lams] (xa : XA) (pc : PKind → Addr) (m : List PT × Int × Int × Unit → Rs Meas) : Sp :=
  FSpI (fun C => ∃ k, C = pc k) (ac (lR (pR pc)) (ac iR (ac iR an))) (fun x => m x ≠ .bad) (fun x F fs => ∃ me l vs, m x = .ok me ∧ F l = some (.lst vs) ∧ A2 (pR pc F) vs x.1 ∧ fs = pflds .row 0 l me) (fun x F c d => ∃ e, m x = .ex e () ∧ exR xa e F c d)
/-- what isinstance asks of an instance's class -/
structure PIs (K : PySem.W.Frag) (pc : PKind → Addr) : Prop where
  ha : ∀ k, PySem.W.findIn K (.ref (pc k)) "__class__" = some (some (.builtin "object.__class__"))
  hn : PySem.W.specialIn K (.builtin "object.__class__") "__get__" = some (some (.builtin "getset_descriptor.__get__"))
  ht : PySem.W.takesIn K (.builtin "object.__class__") = some true
  hm : ∀ k, PySem.W.mroIn K (pc k) (.type "object") = some true
section
variable [Lams] {X : Cx} {σ : L2.St} {F M H : Hp} {a b c e o : Expr} {es : List Expr} {pos p p1 p2 apos : Pos} {α ρ : Type} {n f : Str} {k : Nat} {rest : List Stmt} {D : L2.Ends} {W : WX} {pc : PKind → Addr} {xa : XA}
theorem ev_pmethV {fd : FuncData} {ps : List Str} {fa : Addr} {R : Rep ρ} [Inhabited ρ] {m : PT × Unit → Rs ρ} {t : PT} (T : PCls X.K pc) (hm : Meth X.K (pc t.k) n fa) (G : FnOk X.prog X.w X.K X.mg X.base CX0 k fa fd ps (FSpV (ac (pR pc) an) m R)) (hr : Room k X.A) (hb : Binds X.K fd ps [])
    (he : EvF X o σ F M (pR pc) t) (hp : (m (t, ())).isOk) (hn : ∀ (k : PKind) (i : Int) (l : Addr) (m : Meas), (pflds k i l m).lookup n = none := by intro k i l m; cases k <;> rfl) {pl : Sem Bool}
    (ht : eval (.Call (.Attribute o n apos) [] [] pos) X.env = (do
      let ov ← eval o X.env
      standAt apos.atName
      let (f, first) ← holding [ov] (getMethod ov n pl)
      callWith pos f first (backTo pos (starEach [] X.env)) (backToKw pos (keywordEach [] X.env))) := by rfl) :
    EvF X (.Call (.Attribute o n apos) [] [] pos) σ F M R (m (t, ())).get :=
  fun F1 H1 s w Q q => we_of (pe_meth0 (pl := pl) (pe_w o) (T.c _) hm G hr hb .nil pass0 ht) (he F1 H1 s w _ fun F2 H2 v s2 w2 hv => by
    obtain ⟨p, dx, l, vs, e1, h1, h2, h3⟩ := PR.at hv
    exact ⟨p, dx, _, e1, w2.f _ _ h1, hn _ _ _ _, F2, M, (t, ()), ⟨v, [], by rw [e1]; rfl, hv, rfl⟩, Res.isOk_ne hp, w2, fun F3 H3 u y s3 w3 h hR => q F3 H3 u (s2.trans s3) w3 (by rw [h]; exact hR)⟩)
theorem ev_pmethE {fd : FuncData} {ps : List Str} {fa : Addr} {R : Rep ρ} {m : PT × Unit → Rs ρ} {t : PT} {y : ρ} (T : PCls X.K pc) (hm : Meth X.K (pc t.k) n fa) (G : FnOk X.prog X.w X.K X.mg X.base CX0 k fa fd ps (FSpV (ac (pR pc) an) m R)) (hr : Room k X.A) (hb : Binds X.K fd ps [])
    (he : EvF X o σ F M (pR pc) t) (hy : m (t, ()) = .ok y) (hn : ∀ (k : PKind) (i : Int) (l : Addr) (m : Meas), (pflds k i l m).lookup n = none := by intro k i l m; cases k <;> rfl) {pl : Sem Bool}
    (ht : eval (.Call (.Attribute o n apos) [] [] pos) X.env = (do
      let ov ← eval o X.env
      standAt apos.atName
      let (f, first) ← holding [ov] (getMethod ov n pl)
      callWith pos f first (backTo pos (starEach [] X.env)) (backToKw pos (keywordEach [] X.env))) := by rfl) :
    EvF X (.Call (.Attribute o n apos) [] [] pos) σ F M R y :=
  fun F1 H1 s w Q q => we_of (pe_meth0 (pl := pl) (pe_w o) (T.c _) hm G hr hb .nil pass0 ht) (he F1 H1 s w _ fun F2 H2 v s2 w2 hv => by
    obtain ⟨p, dx, l, vs, e1, h1, h2, h3⟩ := PR.at hv
    exact ⟨p, dx, _, e1, w2.f _ _ h1, hn _ _ _ _, F2, M, (t, ()), ⟨v, [], by rw [e1]; rfl, hv, rfl⟩, Res.isOk_ne (Res.isOk_of hy), w2, fun F3 H3 u y2 s3 w3 h hR => q F3 H3 u (s2.trans s3) w3 (by rw [hy] at h; cases h; exact hR)⟩)
theorem ev_makeP {A : AR α} {m : α → Rs PT} {kk : PKind} {fd : FuncData} {ps : List Str} {g : Addr} {x : α} (tk : Takes X W) (K0 : Mk X.K (pc kk) g) (G : FnOk X.prog X.w X.K X.mg X.base (L2.CX X.prog X.w) k g fd ps (PSp xa pc kk A m)) (hr : Room (k + 1) X.A) (hm : X.mg n = some (.ref (pc kk))) (hb : Binds X.K fd ps [])
    (ha : EvA X (e :: es) σ F M fun F vs => A F vs x) (hp : (m x).isOk)
    (hg : Gl X n := by rfl) (hdb : (n == ("__debug__" : Str)) = false := by decide) (he : starEach (e :: es) X.env = (false, eval e X.env) :: starEach es X.env := by rfl) (hpl : (backTo pos (starEach es X.env)).any (·.1) = false := by rfl) :
    EvF X (.Call (.Name n p) (e :: es) [] pos) σ F M (pR pc) (m x).get :=
  ev_make tk K0 G hr hm hb rfl ha (Res.isOk_ne hp) (fun F2 H2 c d _ _ ⟨e, h, _⟩ => by rw [h] at hp; exact hp.elim) (fun F2 q dx fs hq ⟨F0, s0, t, h, hk, hmd⟩ => by
    rw [h]
    show pR pc F2 (.ref q) t
    exact made_pR (by rw [hk]; exact hq) s0 hmd) hg hdb he hpl
/-- a class's call that raises -/
theorem ex_makeP {A : AR α} {m : α → Rs PT} {kk : PKind} {fd : FuncData} {ps : List Str} {g : Addr} {x : α} {ee : Exc} (tk : Takes X W) (K0 : Mk X.K (pc kk) g) (G : FnOk X.prog X.w X.K X.mg X.base (L2.CX X.prog X.w) k g fd ps (PSp xa pc kk A m)) (hr : Room (k + 1) X.A) (hm : X.mg n = some (.ref (pc kk))) (hb : Binds X.K fd ps [])
    (ha : EvA X (e :: es) σ F M fun F vs => A F vs x) (hp : m x = .ex ee ()) (hx : ∀ F2 H2 c d, Same F F2 → Own F2 M H2 → exR xa ee F2 c d → W c d σ H2)
    (hg : Gl X n := by rfl) (hdb : (n == ("__debug__" : Str)) = false := by decide) (he : starEach (e :: es) X.env = (false, eval e X.env) :: starEach es X.env := by rfl) (hpl : (backTo pos (starEach es X.env)).any (·.1) = false := by rfl) :
    EvX X (.Call (.Name n p) (e :: es) [] pos) σ F M :=
  ev_make (r := fun _ _ (_ : Unit) => False) (y := ()) tk K0 G hr hm hb rfl ha (by rw [hp]; exact fun z => nomatch z) (fun F2 H2 c d s w ⟨e, h, hR⟩ => by rw [hp] at h; cases h; exact hx F2 H2 c d s w hR) (fun F2 q dx fs hq ⟨F0, s0, t, h, _⟩ => by rw [hp] at h; cases h) hg hdb he hpl
/-- isinstance(x, C), x a part -/
theorem bx_isP {C' : Str} {Ck : Addr} {b : Bool} {t : PT} {q2 : Pos} (T : PCls X.K pc) (S : PIs X.K pc) (hm : X.mg "isinstance" = none) (hC : X.mg C' = some (.ref Ck)) (ha : EvF X a σ F M (pR pc) t) (hk : PySem.W.kitOne X.K (.ref (pc t.k)) (.ref Ck) = some b) (hg : Gl X "isinstance" := by rfl) (hgC : Gl X C' := by rfl) (hd : (C' == ("__debug__" : Str)) = false := by decide)
    (he : starEach [a, .Name C' q2] X.env = (false, eval a X.env) :: starEach [.Name C' q2] X.env := by rfl) (he2 : starEach [.Name C' q2] X.env = (false, eval (.Name C' q2) X.env) :: starEach [] X.env := by rfl) (hpl : (backTo pos (starEach [.Name C' q2] X.env)).any (·.1) = false := by rfl)
    (ht : ∀ whole, isTrue (.Call (.Name "isinstance" p) [a, .Name C' q2] [] pos) X.env whole = (do let v ← whole; standAt (Expr.Call (.Name "isinstance" p) [a, .Name C' q2] [] pos).pos; holding [v] (truthy v)) := by intro _; rfl) :
    Bx X (.Call (.Name "isinstance" p) [a, .Name C' q2] [] pos) σ F M b :=
  bx_val (fun F1 H1 s w Q q => we_of (pe_callB call_isi hg hm (by decide +kernel) (pa_cons (pe_w a) (pa_cons (pe_glob (v := .ref Ck) hgC hC rfl hd) pa_nil he2) he) (he := he) (hpl := hpl)) (ha F1 H1 s w _ fun F2 H2 v s2 w2 hv => by
    obtain ⟨p, dx, l, vs, e1, h1, h2, h3⟩ := PR.at hv
    exact ⟨v, .ref Ck, .ref (pc t.k), .ref Ck, b, rfl, .own Ck, by rw [e1]; exact .base (.ins (w2.f _ _ h1) (T.c _) (S.ha _) S.hn S.ht (S.hm _)), hk, q F2 H2 _ s2 w2 rfl⟩)) ht
end
end Y

/-! ### calls that change what is one's own, told step by step -/
namespace Y
open PySem PySem.Spec PyProof.Rows L2
section
variable [Lams] {X : Cx} {σ : L2.St} {F F1 F2 M M0 M1 M2 H H2 : Hp} {d d0 d1 d2 : List Addr} {α β γ ρ : Type} {o : OR ρ} {R : Rep ρ} {s : OS β} {vs us ws : List V} {v u : V} {y : β}
variable {a b e : Expr} {es : List Expr} {pos p p2 : Pos} {n : Str} {rest : List Stmt} {D : L2.Ends} {A : AR α} {x : α} {ms : List Bool}
/-- arguments of which some are one's own -/
abbrev Wv (ms : List Bool) (ws : List V) {α : Type} (A : AR α) (F : Hp) (vs : List V) (x : α) : Prop := ∃ us, vs = weave ms us ws ∧ ms.length = vs.length ∧ A F us x
theorem ew_nil : EvA X [] σ F M fun F vs => Wv [] [] an F vs () := fun F1 H1 s w Q q => wa_of pa_nil (q F1 H1 _ (Same.refl _) w ⟨[], rfl, rfl, rfl⟩)
theorem ew_u {r : Rep ρ} {z : ρ} [m : Mono r] (ha : EvF X a σ F M r z) (h : EvA X es σ F M fun F vs => Wv ms ws A F vs x) (hs : starEach (a :: es) X.env = (false, eval a X.env) :: starEach es X.env := by rfl) :
    EvA X (a :: es) σ F M fun F vs => Wv (false :: ms) ws (ac r A) F vs (z, x) :=
  fun F1 H1 s w Q q => wa_of (pa_cons (pe_w a) (pa_w es) hs) (ha F1 H1 s w _ fun F2 H2 v s2 w2 hv => h F2 H2 (s.trans s2) w2 _ fun F3 H3 us s3 w3 ⟨us', e1, e2, e3⟩ =>
    q F3 H3 _ (s2.trans s3) w3 ⟨v :: us', by rw [e1]; rfl, by rw [List.length_cons, List.length_cons, e2], v, us', rfl, Mono.mono s3 hv, e3⟩)
theorem ew_o (ha : EvV X a σ F M v) (h : EvA X es σ F M fun F vs => Wv ms ws A F vs x) (hs : starEach (a :: es) X.env = (false, eval a X.env) :: starEach es X.env := by rfl) :
    EvA X (a :: es) σ F M fun F vs => Wv (true :: ms) (v :: ws) A F vs x :=
  fun F1 H1 s w Q q => wa_of (pa_cons (pe_w a) (pa_w es) hs) (ha F1 H1 s w _ fun F2 H2 v' s2 w2 hv => h F2 H2 (s.trans s2) w2 _ fun F3 H3 us s3 w3 ⟨us', e1, e2, e3⟩ =>
    q F3 H3 _ (s2.trans s3) w3 ⟨us', by rw [e1, hv]; rfl, by rw [List.length_cons, List.length_cons, e2], e3⟩)
/-- out of a def that changes its arguments -/
theorem outM {m : Res β (ρ × β)} {Q : V → Hp → Prop} {z : ρ} {y2 : β}
    (kk : ∀ F2 M2 H2 v z y2 dr d2, Same F F2 → Own F2 M2 H2 → (∀ a, a ∉ d → M a ≠ none → M2 a = M a) → o dr F2 M2 v z → s d2 F2 M2 vs y2 → (dr ++ d2).Nodup → (∀ a ∈ dr ++ d2, a ∈ d ∨ M a = none) → m = .ok (z, y2) → Q v H2)
    (e : Same F F2) (sh : SH M d (oC o s) d2 F2 M2 H2 (v :: vs) (z, y2)) (hm : m = .ok (z, y2)) : Q v H2 := by
  obtain ⟨a1, a2, rfl, h1, h2⟩ := oC.at sh.g
  exact kk _ _ _ _ _ _ a1 a2 e sh.w sh.sM h1 h2 sh.nd sh.n0 hm
/-- return e, e something new -/
theorem ss_retW [m : OM o] [q : OMS s] {z : ρ} (he : EvU X e σ F M o z) (h : SH M0 d0 s d F M H vs y) (kk : ∀ F2 M2 H2 d2 v, Same F F2 → SH M0 d0 (oC o s) d2 F2 M2 H2 (v :: vs) (z, y) → D.rt v H2) : WSs X (.Return (some e) pos :: rest) D σ H :=
  wss_cons (ws_of (ps_ret (pe_w e)) (he F H (Same.refl _) h.w _ fun F2 H2 R v d1 s2 w2 ap hq nd => kk F2 _ H2 _ v s2 (h.new s2 w2 ap hq nd)))
/-- return x, x one's own -/
theorem ss_retWV (i : Nat) (hσ : σ[i]? = some (some v)) (kk : D.rt v H)
    (hN : X.N[i]? = some n := by rfl) (hv : Vis X.env.scope n := by first | exact Or.inl rfl | exact Or.inr (Or.inl rfl) | exact Or.inr (Or.inr rfl)) (hd : (n == ("__debug__" : Str)) = false := by decide) (hcd : (n == ("__classdict__" : Str)) = false := by decide) : WSs X (.Return (some (.Name n p)) pos :: rest) D σ H :=
  wss_cons (ws_of (ps_ret (pe_var hN hv hd hcd)) ⟨v, hσ, kk⟩)
end
end Y

/-! ### unpacking of unlike things, more than three -/
namespace Y
open PySem PySem.Spec PyProof.Rows L2
section
variable [Lams] {X : Cx} {σ : L2.St} {F M H : Hp} {a b c e o : Expr} {es : List Expr} {pos p p0 apos : Pos} {α β γ : Type} {r s : Rep α} {n f : Str} {rest : List Stmt} {D : L2.Ends}
theorem ss_ul4 {α1 α2 α3 α4 : Type} {r1 : Rep α1} {r2 : Rep α2} {r3 : Rep α3} {r4 : Rep α4} {n1 n2 n3 n4 : Str} {p1 p2 p3 p4 pt : Pos} (i1 i2 i3 i4 : Nat) {ki} {x : α1 × α2 × α3 × α4} (he : EvF X e σ F M (hnR (rC r1 (rC r2 (rC r3 (rO r4))))) x) (w : Own F M H)
    (k : ∀ F2 H2 u1 u2 u3 u4, Same F F2 → Own F2 M H2 → r1 F2 u1 x.1 → r2 F2 u2 x.2.1 → r3 F2 u3 x.2.2.1 → r4 F2 u4 x.2.2.2 → WSs X rest D (List.set (List.set (List.set (List.set σ i1 (some u1)) i2 (some u2)) i3 (some u3)) i4 (some u4)) H2)
    (hN : X.N.Nodup) (h1 : X.N[i1]? = some n1 := by rfl) (h2 : X.N[i2]? = some n2 := by rfl) (h3 : X.N[i3]? = some n3 := by rfl) (h4 : X.N[i4]? = some n4 := by rfl) (x1 : Loc X.env.scope n1 := by first | exact Or.inl rfl | exact Or.inr rfl) (x2 : Loc X.env.scope n2 := by first | exact Or.inl rfl | exact Or.inr rfl) (x3 : Loc X.env.scope n3 := by first | exact Or.inl rfl | exact Or.inr rfl) (x4 : Loc X.env.scope n4 := by first | exact Or.inl rfl | exact Or.inr rfl) (f1 : Lc X n1 := by first | exact .inl rfl | exact .inr rfl) (f2 : Lc X n2 := by first | exact .inl rfl | exact .inr rfl) (f3 : Lc X n3 := by first | exact .inl rfl | exact .inr rfl) (f4 : Lc X n4 := by first | exact .inl rfl | exact .inr rfl) (hc : X.calm = true := by rfl)
    (z1 : swapsWithSole [.Tuple [.Name n1 p1, .Name n2 p2, .Name n3 p3, .Name n4 p4] ki pt] e pos.line X.env = pure false := by rfl) (z2 : swappedStores [.Tuple [.Name n1 p1, .Name n2 p2, .Name n3 p3, .Name n4 p4] ki pt] e X.env = pure none := by rfl) (z3 : (assignEach [.Tuple [.Name n1 p1, .Name n2 p2, .Name n3 p3, .Name n4 p4] ki pt] X.env).map (·.2) = [assign (.Tuple [.Name n1 p1, .Name n2 p2, .Name n3 p3, .Name n4 p4] ki pt) X.env] := by rfl)
    (q1 : (assignEach [.Name n1 p1, .Name n2 p2, .Name n3 p3, .Name n4 p4] X.env).map (·.2) = assign (.Name n1 p1) X.env :: (assignEach [.Name n2 p2, .Name n3 p3, .Name n4 p4] X.env).map (·.2) := by rfl)
    (q2 : (assignEach [.Name n2 p2, .Name n3 p3, .Name n4 p4] X.env).map (·.2) = assign (.Name n2 p2) X.env :: (assignEach [.Name n3 p3, .Name n4 p4] X.env).map (·.2) := by rfl)
    (q3 : (assignEach [.Name n3 p3, .Name n4 p4] X.env).map (·.2) = assign (.Name n3 p3) X.env :: (assignEach [.Name n4 p4] X.env).map (·.2) := by rfl)
    (q4 : (assignEach [.Name n4 p4] X.env).map (·.2) = assign (.Name n4 p4) X.env :: (assignEach [] X.env).map (·.2) := by rfl)
    (g1 : (assignEach [.Name n1 p1, .Name n2 p2, .Name n3 p3, .Name n4 p4] X.env).length = 4 := by rfl) (g2 : (assignEach [.Name n1 p1, .Name n2 p2, .Name n3 p3, .Name n4 p4] X.env).findIdx? (·.1) = none := by rfl) : WSs X (.Assign [.Tuple [.Name n1 p1, .Name n2 p2, .Name n3 p3, .Name n4 p4] ki pt] e pos :: rest) D σ H :=
  wss_cons (ws_of (ps_asg (pe_w e) (pg_unl hc (pgs_cons (pg_name hN h1 x1 f1) (pgs_cons (pg_name hN h2 x2 f2) (pgs_cons (pg_name hN h3 x3 f3) (pgs_cons (pg_name hN h4 x4 f4) pgs_nil q4) q3) q2) q1) g1 g2) z1 z2 z3) (he F H (Same.refl _) w _ fun F2 H2 v sm w2 ⟨l, vs, ev, hl, ⟨u1, _, e1, s1, ⟨u2, _, e2, s2, ⟨u3, _, e3, s3, ⟨u4, er, s4⟩⟩⟩⟩⟩ => by
    subst e1
    subst e2
    subst e3
    subst er
    exact ⟨l, _, ev, SqL.of (w2.f _ _ hl), rfl, u1, _, rfl, u2, _, rfl, u3, _, rfl, u4, _, rfl, rfl, k F2 H2 u1 u2 u3 u4 sm w2 s1 s2 s3 s4⟩))
theorem ss_ul5 {α1 α2 α3 α4 α5 : Type} {r1 : Rep α1} {r2 : Rep α2} {r3 : Rep α3} {r4 : Rep α4} {r5 : Rep α5} {n1 n2 n3 n4 n5 : Str} {p1 p2 p3 p4 p5 pt : Pos} (i1 i2 i3 i4 i5 : Nat) {ki} {x : α1 × α2 × α3 × α4 × α5} (he : EvF X e σ F M (hnR (rC r1 (rC r2 (rC r3 (rC r4 (rO r5)))))) x) (w : Own F M H)
    (k : ∀ F2 H2 u1 u2 u3 u4 u5, Same F F2 → Own F2 M H2 → r1 F2 u1 x.1 → r2 F2 u2 x.2.1 → r3 F2 u3 x.2.2.1 → r4 F2 u4 x.2.2.2.1 → r5 F2 u5 x.2.2.2.2 → WSs X rest D (List.set (List.set (List.set (List.set (List.set σ i1 (some u1)) i2 (some u2)) i3 (some u3)) i4 (some u4)) i5 (some u5)) H2)
    (hN : X.N.Nodup) (h1 : X.N[i1]? = some n1 := by rfl) (h2 : X.N[i2]? = some n2 := by rfl) (h3 : X.N[i3]? = some n3 := by rfl) (h4 : X.N[i4]? = some n4 := by rfl) (h5 : X.N[i5]? = some n5 := by rfl) (x1 : Loc X.env.scope n1 := by first | exact Or.inl rfl | exact Or.inr rfl) (x2 : Loc X.env.scope n2 := by first | exact Or.inl rfl | exact Or.inr rfl) (x3 : Loc X.env.scope n3 := by first | exact Or.inl rfl | exact Or.inr rfl) (x4 : Loc X.env.scope n4 := by first | exact Or.inl rfl | exact Or.inr rfl) (x5 : Loc X.env.scope n5 := by first | exact Or.inl rfl | exact Or.inr rfl) (f1 : Lc X n1 := by first | exact .inl rfl | exact .inr rfl) (f2 : Lc X n2 := by first | exact .inl rfl | exact .inr rfl) (f3 : Lc X n3 := by first | exact .inl rfl | exact .inr rfl) (f4 : Lc X n4 := by first | exact .inl rfl | exact .inr rfl) (f5 : Lc X n5 := by first | exact .inl rfl | exact .inr rfl) (hc : X.calm = true := by rfl)
    (z1 : swapsWithSole [.Tuple [.Name n1 p1, .Name n2 p2, .Name n3 p3, .Name n4 p4, .Name n5 p5] ki pt] e pos.line X.env = pure false := by rfl) (z2 : swappedStores [.Tuple [.Name n1 p1, .Name n2 p2, .Name n3 p3, .Name n4 p4, .Name n5 p5] ki pt] e X.env = pure none := by rfl) (z3 : (assignEach [.Tuple [.Name n1 p1, .Name n2 p2, .Name n3 p3, .Name n4 p4, .Name n5 p5] ki pt] X.env).map (·.2) = [assign (.Tuple [.Name n1 p1, .Name n2 p2, .Name n3 p3, .Name n4 p4, .Name n5 p5] ki pt) X.env] := by rfl)
    (q1 : (assignEach [.Name n1 p1, .Name n2 p2, .Name n3 p3, .Name n4 p4, .Name n5 p5] X.env).map (·.2) = assign (.Name n1 p1) X.env :: (assignEach [.Name n2 p2, .Name n3 p3, .Name n4 p4, .Name n5 p5] X.env).map (·.2) := by rfl)
    (q2 : (assignEach [.Name n2 p2, .Name n3 p3, .Name n4 p4, .Name n5 p5] X.env).map (·.2) = assign (.Name n2 p2) X.env :: (assignEach [.Name n3 p3, .Name n4 p4, .Name n5 p5] X.env).map (·.2) := by rfl)
    (q3 : (assignEach [.Name n3 p3, .Name n4 p4, .Name n5 p5] X.env).map (·.2) = assign (.Name n3 p3) X.env :: (assignEach [.Name n4 p4, .Name n5 p5] X.env).map (·.2) := by rfl)
    (q4 : (assignEach [.Name n4 p4, .Name n5 p5] X.env).map (·.2) = assign (.Name n4 p4) X.env :: (assignEach [.Name n5 p5] X.env).map (·.2) := by rfl)
    (q5 : (assignEach [.Name n5 p5] X.env).map (·.2) = assign (.Name n5 p5) X.env :: (assignEach [] X.env).map (·.2) := by rfl)
    (g1 : (assignEach [.Name n1 p1, .Name n2 p2, .Name n3 p3, .Name n4 p4, .Name n5 p5] X.env).length = 5 := by rfl) (g2 : (assignEach [.Name n1 p1, .Name n2 p2, .Name n3 p3, .Name n4 p4, .Name n5 p5] X.env).findIdx? (·.1) = none := by rfl) : WSs X (.Assign [.Tuple [.Name n1 p1, .Name n2 p2, .Name n3 p3, .Name n4 p4, .Name n5 p5] ki pt] e pos :: rest) D σ H :=
  wss_cons (ws_of (ps_asg (pe_w e) (pg_unl hc (pgs_cons (pg_name hN h1 x1 f1) (pgs_cons (pg_name hN h2 x2 f2) (pgs_cons (pg_name hN h3 x3 f3) (pgs_cons (pg_name hN h4 x4 f4) (pgs_cons (pg_name hN h5 x5 f5) pgs_nil q5) q4) q3) q2) q1) g1 g2) z1 z2 z3) (he F H (Same.refl _) w _ fun F2 H2 v sm w2 ⟨l, vs, ev, hl, ⟨u1, _, e1, s1, ⟨u2, _, e2, s2, ⟨u3, _, e3, s3, ⟨u4, _, e4, s4, ⟨u5, er, s5⟩⟩⟩⟩⟩⟩ => by
    subst e1
    subst e2
    subst e3
    subst e4
    subst er
    exact ⟨l, _, ev, SqL.of (w2.f _ _ hl), rfl, u1, _, rfl, u2, _, rfl, u3, _, rfl, u4, _, rfl, u5, _, rfl, rfl, k F2 H2 u1 u2 u3 u4 u5 sm w2 s1 s2 s3 s4 s5⟩))
theorem ss_ul6 {α1 α2 α3 α4 α5 α6 : Type} {r1 : Rep α1} {r2 : Rep α2} {r3 : Rep α3} {r4 : Rep α4} {r5 : Rep α5} {r6 : Rep α6} {n1 n2 n3 n4 n5 n6 : Str} {p1 p2 p3 p4 p5 p6 pt : Pos} (i1 i2 i3 i4 i5 i6 : Nat) {ki} {x : α1 × α2 × α3 × α4 × α5 × α6} (he : EvF X e σ F M (hnR (rC r1 (rC r2 (rC r3 (rC r4 (rC r5 (rO r6))))))) x) (w : Own F M H)
    (k : ∀ F2 H2 u1 u2 u3 u4 u5 u6, Same F F2 → Own F2 M H2 → r1 F2 u1 x.1 → r2 F2 u2 x.2.1 → r3 F2 u3 x.2.2.1 → r4 F2 u4 x.2.2.2.1 → r5 F2 u5 x.2.2.2.2.1 → r6 F2 u6 x.2.2.2.2.2 → WSs X rest D (List.set (List.set (List.set (List.set (List.set (List.set σ i1 (some u1)) i2 (some u2)) i3 (some u3)) i4 (some u4)) i5 (some u5)) i6 (some u6)) H2)
    (hN : X.N.Nodup) (h1 : X.N[i1]? = some n1 := by rfl) (h2 : X.N[i2]? = some n2 := by rfl) (h3 : X.N[i3]? = some n3 := by rfl) (h4 : X.N[i4]? = some n4 := by rfl) (h5 : X.N[i5]? = some n5 := by rfl) (h6 : X.N[i6]? = some n6 := by rfl) (x1 : Loc X.env.scope n1 := by first | exact Or.inl rfl | exact Or.inr rfl) (x2 : Loc X.env.scope n2 := by first | exact Or.inl rfl | exact Or.inr rfl) (x3 : Loc X.env.scope n3 := by first | exact Or.inl rfl | exact Or.inr rfl) (x4 : Loc X.env.scope n4 := by first | exact Or.inl rfl | exact Or.inr rfl) (x5 : Loc X.env.scope n5 := by first | exact Or.inl rfl | exact Or.inr rfl) (x6 : Loc X.env.scope n6 := by first | exact Or.inl rfl | exact Or.inr rfl) (f1 : Lc X n1 := by first | exact .inl rfl | exact .inr rfl) (f2 : Lc X n2 := by first | exact .inl rfl | exact .inr rfl) (f3 : Lc X n3 := by first | exact .inl rfl | exact .inr rfl) (f4 : Lc X n4 := by first | exact .inl rfl | exact .inr rfl) (f5 : Lc X n5 := by first | exact .inl rfl | exact .inr rfl) (f6 : Lc X n6 := by first | exact .inl rfl | exact .inr rfl) (hc : X.calm = true := by rfl)
    (z1 : swapsWithSole [.Tuple [.Name n1 p1, .Name n2 p2, .Name n3 p3, .Name n4 p4, .Name n5 p5, .Name n6 p6] ki pt] e pos.line X.env = pure false := by rfl) (z2 : swappedStores [.Tuple [.Name n1 p1, .Name n2 p2, .Name n3 p3, .Name n4 p4, .Name n5 p5, .Name n6 p6] ki pt] e X.env = pure none := by rfl) (z3 : (assignEach [.Tuple [.Name n1 p1, .Name n2 p2, .Name n3 p3, .Name n4 p4, .Name n5 p5, .Name n6 p6] ki pt] X.env).map (·.2) = [assign (.Tuple [.Name n1 p1, .Name n2 p2, .Name n3 p3, .Name n4 p4, .Name n5 p5, .Name n6 p6] ki pt) X.env] := by rfl)
    (q1 : (assignEach [.Name n1 p1, .Name n2 p2, .Name n3 p3, .Name n4 p4, .Name n5 p5, .Name n6 p6] X.env).map (·.2) = assign (.Name n1 p1) X.env :: (assignEach [.Name n2 p2, .Name n3 p3, .Name n4 p4, .Name n5 p5, .Name n6 p6] X.env).map (·.2) := by rfl)
    (q2 : (assignEach [.Name n2 p2, .Name n3 p3, .Name n4 p4, .Name n5 p5, .Name n6 p6] X.env).map (·.2) = assign (.Name n2 p2) X.env :: (assignEach [.Name n3 p3, .Name n4 p4, .Name n5 p5, .Name n6 p6] X.env).map (·.2) := by rfl)
    (q3 : (assignEach [.Name n3 p3, .Name n4 p4, .Name n5 p5, .Name n6 p6] X.env).map (·.2) = assign (.Name n3 p3) X.env :: (assignEach [.Name n4 p4, .Name n5 p5, .Name n6 p6] X.env).map (·.2) := by rfl)
    (q4 : (assignEach [.Name n4 p4, .Name n5 p5, .Name n6 p6] X.env).map (·.2) = assign (.Name n4 p4) X.env :: (assignEach [.Name n5 p5, .Name n6 p6] X.env).map (·.2) := by rfl)
    (q5 : (assignEach [.Name n5 p5, .Name n6 p6] X.env).map (·.2) = assign (.Name n5 p5) X.env :: (assignEach [.Name n6 p6] X.env).map (·.2) := by rfl)
    (q6 : (assignEach [.Name n6 p6] X.env).map (·.2) = assign (.Name n6 p6) X.env :: (assignEach [] X.env).map (·.2) := by rfl)
    (g1 : (assignEach [.Name n1 p1, .Name n2 p2, .Name n3 p3, .Name n4 p4, .Name n5 p5, .Name n6 p6] X.env).length = 6 := by rfl) (g2 : (assignEach [.Name n1 p1, .Name n2 p2, .Name n3 p3, .Name n4 p4, .Name n5 p5, .Name n6 p6] X.env).findIdx? (·.1) = none := by rfl) : WSs X (.Assign [.Tuple [.Name n1 p1, .Name n2 p2, .Name n3 p3, .Name n4 p4, .Name n5 p5, .Name n6 p6] ki pt] e pos :: rest) D σ H :=
  wss_cons (ws_of (ps_asg (pe_w e) (pg_unl hc (pgs_cons (pg_name hN h1 x1 f1) (pgs_cons (pg_name hN h2 x2 f2) (pgs_cons (pg_name hN h3 x3 f3) (pgs_cons (pg_name hN h4 x4 f4) (pgs_cons (pg_name hN h5 x5 f5) (pgs_cons (pg_name hN h6 x6 f6) pgs_nil q6) q5) q4) q3) q2) q1) g1 g2) z1 z2 z3) (he F H (Same.refl _) w _ fun F2 H2 v sm w2 ⟨l, vs, ev, hl, ⟨u1, _, e1, s1, ⟨u2, _, e2, s2, ⟨u3, _, e3, s3, ⟨u4, _, e4, s4, ⟨u5, _, e5, s5, ⟨u6, er, s6⟩⟩⟩⟩⟩⟩⟩ => by
    subst e1
    subst e2
    subst e3
    subst e4
    subst e5
    subst er
    exact ⟨l, _, ev, SqL.of (w2.f _ _ hl), rfl, u1, _, rfl, u2, _, rfl, u3, _, rfl, u4, _, rfl, u5, _, rfl, u6, _, rfl, rfl, k F2 H2 u1 u2 u3 u4 u5 u6 sm w2 s1 s2 s3 s4 s5 s6⟩))
theorem ss_ul7 {α1 α2 α3 α4 α5 α6 α7 : Type} {r1 : Rep α1} {r2 : Rep α2} {r3 : Rep α3} {r4 : Rep α4} {r5 : Rep α5} {r6 : Rep α6} {r7 : Rep α7} {n1 n2 n3 n4 n5 n6 n7 : Str} {p1 p2 p3 p4 p5 p6 p7 pt : Pos} (i1 i2 i3 i4 i5 i6 i7 : Nat) {ki} {x : α1 × α2 × α3 × α4 × α5 × α6 × α7} (he : EvF X e σ F M (hnR (rC r1 (rC r2 (rC r3 (rC r4 (rC r5 (rC r6 (rO r7)))))))) x) (w : Own F M H)
    (k : ∀ F2 H2 u1 u2 u3 u4 u5 u6 u7, Same F F2 → Own F2 M H2 → r1 F2 u1 x.1 → r2 F2 u2 x.2.1 → r3 F2 u3 x.2.2.1 → r4 F2 u4 x.2.2.2.1 → r5 F2 u5 x.2.2.2.2.1 → r6 F2 u6 x.2.2.2.2.2.1 → r7 F2 u7 x.2.2.2.2.2.2 → WSs X rest D (List.set (List.set (List.set (List.set (List.set (List.set (List.set σ i1 (some u1)) i2 (some u2)) i3 (some u3)) i4 (some u4)) i5 (some u5)) i6 (some u6)) i7 (some u7)) H2)
    (hN : X.N.Nodup) (h1 : X.N[i1]? = some n1 := by rfl) (h2 : X.N[i2]? = some n2 := by rfl) (h3 : X.N[i3]? = some n3 := by rfl) (h4 : X.N[i4]? = some n4 := by rfl) (h5 : X.N[i5]? = some n5 := by rfl) (h6 : X.N[i6]? = some n6 := by rfl) (h7 : X.N[i7]? = some n7 := by rfl) (x1 : Loc X.env.scope n1 := by first | exact Or.inl rfl | exact Or.inr rfl) (x2 : Loc X.env.scope n2 := by first | exact Or.inl rfl | exact Or.inr rfl) (x3 : Loc X.env.scope n3 := by first | exact Or.inl rfl | exact Or.inr rfl) (x4 : Loc X.env.scope n4 := by first | exact Or.inl rfl | exact Or.inr rfl) (x5 : Loc X.env.scope n5 := by first | exact Or.inl rfl | exact Or.inr rfl) (x6 : Loc X.env.scope n6 := by first | exact Or.inl rfl | exact Or.inr rfl) (x7 : Loc X.env.scope n7 := by first | exact Or.inl rfl | exact Or.inr rfl) (f1 : Lc X n1 := by first | exact .inl rfl | exact .inr rfl) (f2 : Lc X n2 := by first | exact .inl rfl | exact .inr rfl) (f3 : Lc X n3 := by first | exact .inl rfl | exact .inr rfl) (f4 : Lc X n4 := by first | exact .inl rfl | exact .inr rfl) (f5 : Lc X n5 := by first | exact .inl rfl | exact .inr rfl) (f6 : Lc X n6 := by first | exact .inl rfl | exact .inr rfl) (f7 : Lc X n7 := by first | exact .inl rfl | exact .inr rfl) (hc : X.calm = true := by rfl)
    (z1 : swapsWithSole [.Tuple [.Name n1 p1, .Name n2 p2, .Name n3 p3, .Name n4 p4, .Name n5 p5, .Name n6 p6, .Name n7 p7] ki pt] e pos.line X.env = pure false := by rfl) (z2 : swappedStores [.Tuple [.Name n1 p1, .Name n2 p2, .Name n3 p3, .Name n4 p4, .Name n5 p5, .Name n6 p6, .Name n7 p7] ki pt] e X.env = pure none := by rfl) (z3 : (assignEach [.Tuple [.Name n1 p1, .Name n2 p2, .Name n3 p3, .Name n4 p4, .Name n5 p5, .Name n6 p6, .Name n7 p7] ki pt] X.env).map (·.2) = [assign (.Tuple [.Name n1 p1, .Name n2 p2, .Name n3 p3, .Name n4 p4, .Name n5 p5, .Name n6 p6, .Name n7 p7] ki pt) X.env] := by rfl)
    (q1 : (assignEach [.Name n1 p1, .Name n2 p2, .Name n3 p3, .Name n4 p4, .Name n5 p5, .Name n6 p6, .Name n7 p7] X.env).map (·.2) = assign (.Name n1 p1) X.env :: (assignEach [.Name n2 p2, .Name n3 p3, .Name n4 p4, .Name n5 p5, .Name n6 p6, .Name n7 p7] X.env).map (·.2) := by rfl)
    (q2 : (assignEach [.Name n2 p2, .Name n3 p3, .Name n4 p4, .Name n5 p5, .Name n6 p6, .Name n7 p7] X.env).map (·.2) = assign (.Name n2 p2) X.env :: (assignEach [.Name n3 p3, .Name n4 p4, .Name n5 p5, .Name n6 p6, .Name n7 p7] X.env).map (·.2) := by rfl)
    (q3 : (assignEach [.Name n3 p3, .Name n4 p4, .Name n5 p5, .Name n6 p6, .Name n7 p7] X.env).map (·.2) = assign (.Name n3 p3) X.env :: (assignEach [.Name n4 p4, .Name n5 p5, .Name n6 p6, .Name n7 p7] X.env).map (·.2) := by rfl)
    (q4 : (assignEach [.Name n4 p4, .Name n5 p5, .Name n6 p6, .Name n7 p7] X.env).map (·.2) = assign (.Name n4 p4) X.env :: (assignEach [.Name n5 p5, .Name n6 p6, .Name n7 p7] X.env).map (·.2) := by rfl)
    (q5 : (assignEach [.Name n5 p5, .Name n6 p6, .Name n7 p7] X.env).map (·.2) = assign (.Name n5 p5) X.env :: (assignEach [.Name n6 p6, .Name n7 p7] X.env).map (·.2) := by rfl)
    (q6 : (assignEach [.Name n6 p6, .Name n7 p7] X.env).map (·.2) = assign (.Name n6 p6) X.env :: (assignEach [.Name n7 p7] X.env).map (·.2) := by rfl)
    (q7 : (assignEach [.Name n7 p7] X.env).map (·.2) = assign (.Name n7 p7) X.env :: (assignEach [] X.env).map (·.2) := by rfl)
    (g1 : (assignEach [.Name n1 p1, .Name n2 p2, .Name n3 p3, .Name n4 p4, .Name n5 p5, .Name n6 p6, .Name n7 p7] X.env).length = 7 := by rfl) (g2 : (assignEach [.Name n1 p1, .Name n2 p2, .Name n3 p3, .Name n4 p4, .Name n5 p5, .Name n6 p6, .Name n7 p7] X.env).findIdx? (·.1) = none := by rfl) : WSs X (.Assign [.Tuple [.Name n1 p1, .Name n2 p2, .Name n3 p3, .Name n4 p4, .Name n5 p5, .Name n6 p6, .Name n7 p7] ki pt] e pos :: rest) D σ H :=
  wss_cons (ws_of (ps_asg (pe_w e) (pg_unl hc (pgs_cons (pg_name hN h1 x1 f1) (pgs_cons (pg_name hN h2 x2 f2) (pgs_cons (pg_name hN h3 x3 f3) (pgs_cons (pg_name hN h4 x4 f4) (pgs_cons (pg_name hN h5 x5 f5) (pgs_cons (pg_name hN h6 x6 f6) (pgs_cons (pg_name hN h7 x7 f7) pgs_nil q7) q6) q5) q4) q3) q2) q1) g1 g2) z1 z2 z3) (he F H (Same.refl _) w _ fun F2 H2 v sm w2 ⟨l, vs, ev, hl, ⟨u1, _, e1, s1, ⟨u2, _, e2, s2, ⟨u3, _, e3, s3, ⟨u4, _, e4, s4, ⟨u5, _, e5, s5, ⟨u6, _, e6, s6, ⟨u7, er, s7⟩⟩⟩⟩⟩⟩⟩⟩ => by
    subst e1
    subst e2
    subst e3
    subst e4
    subst e5
    subst e6
    subst er
    exact ⟨l, _, ev, SqL.of (w2.f _ _ hl), rfl, u1, _, rfl, u2, _, rfl, u3, _, rfl, u4, _, rfl, u5, _, rfl, u6, _, rfl, u7, _, rfl, rfl, k F2 H2 u1 u2 u3 u4 u5 u6 u7 sm w2 s1 s2 s3 s4 s5 s6 s7⟩))
theorem ss_un4 {α1 α2 α3 α4 : Type} {r1 : Rep α1} {r2 : Rep α2} {r3 : Rep α3} {r4 : Rep α4} {n1 n2 n3 n4 : Str} {p1 p2 p3 p4 pt : Pos} (i1 i2 i3 i4 : Nat) {ki} {x : α1 × α2 × α3 × α4} (he : EvF X e σ F M (tnR (rC r1 (rC r2 (rC r3 (rO r4))))) x) (w : Own F M H)
    (k : ∀ F2 H2 u1 u2 u3 u4, Same F F2 → Own F2 M H2 → r1 F2 u1 x.1 → r2 F2 u2 x.2.1 → r3 F2 u3 x.2.2.1 → r4 F2 u4 x.2.2.2 → WSs X rest D (List.set (List.set (List.set (List.set σ i1 (some u1)) i2 (some u2)) i3 (some u3)) i4 (some u4)) H2)
    (hN : X.N.Nodup) (h1 : X.N[i1]? = some n1 := by rfl) (h2 : X.N[i2]? = some n2 := by rfl) (h3 : X.N[i3]? = some n3 := by rfl) (h4 : X.N[i4]? = some n4 := by rfl) (x1 : Loc X.env.scope n1 := by first | exact Or.inl rfl | exact Or.inr rfl) (x2 : Loc X.env.scope n2 := by first | exact Or.inl rfl | exact Or.inr rfl) (x3 : Loc X.env.scope n3 := by first | exact Or.inl rfl | exact Or.inr rfl) (x4 : Loc X.env.scope n4 := by first | exact Or.inl rfl | exact Or.inr rfl) (f1 : Lc X n1 := by first | exact .inl rfl | exact .inr rfl) (f2 : Lc X n2 := by first | exact .inl rfl | exact .inr rfl) (f3 : Lc X n3 := by first | exact .inl rfl | exact .inr rfl) (f4 : Lc X n4 := by first | exact .inl rfl | exact .inr rfl) (hc : X.calm = true := by rfl)
    (z1 : swapsWithSole [.Tuple [.Name n1 p1, .Name n2 p2, .Name n3 p3, .Name n4 p4] ki pt] e pos.line X.env = pure false := by rfl) (z2 : swappedStores [.Tuple [.Name n1 p1, .Name n2 p2, .Name n3 p3, .Name n4 p4] ki pt] e X.env = pure none := by rfl) (z3 : (assignEach [.Tuple [.Name n1 p1, .Name n2 p2, .Name n3 p3, .Name n4 p4] ki pt] X.env).map (·.2) = [assign (.Tuple [.Name n1 p1, .Name n2 p2, .Name n3 p3, .Name n4 p4] ki pt) X.env] := by rfl)
    (q1 : (assignEach [.Name n1 p1, .Name n2 p2, .Name n3 p3, .Name n4 p4] X.env).map (·.2) = assign (.Name n1 p1) X.env :: (assignEach [.Name n2 p2, .Name n3 p3, .Name n4 p4] X.env).map (·.2) := by rfl)
    (q2 : (assignEach [.Name n2 p2, .Name n3 p3, .Name n4 p4] X.env).map (·.2) = assign (.Name n2 p2) X.env :: (assignEach [.Name n3 p3, .Name n4 p4] X.env).map (·.2) := by rfl)
    (q3 : (assignEach [.Name n3 p3, .Name n4 p4] X.env).map (·.2) = assign (.Name n3 p3) X.env :: (assignEach [.Name n4 p4] X.env).map (·.2) := by rfl)
    (q4 : (assignEach [.Name n4 p4] X.env).map (·.2) = assign (.Name n4 p4) X.env :: (assignEach [] X.env).map (·.2) := by rfl)
    (g1 : (assignEach [.Name n1 p1, .Name n2 p2, .Name n3 p3, .Name n4 p4] X.env).length = 4 := by rfl) (g2 : (assignEach [.Name n1 p1, .Name n2 p2, .Name n3 p3, .Name n4 p4] X.env).findIdx? (·.1) = none := by rfl) : WSs X (.Assign [.Tuple [.Name n1 p1, .Name n2 p2, .Name n3 p3, .Name n4 p4] ki pt] e pos :: rest) D σ H :=
  wss_cons (ws_of (ps_asg (pe_w e) (pg_tup hc (pgs_cons (pg_name hN h1 x1 f1) (pgs_cons (pg_name hN h2 x2 f2) (pgs_cons (pg_name hN h3 x3 f3) (pgs_cons (pg_name hN h4 x4 f4) pgs_nil q4) q3) q2) q1) g1 g2) z1 z2 z3) (he F H (Same.refl _) w _ fun F2 H2 v sm w2 ⟨l, vs, ev, hl, ⟨u1, _, e1, s1, ⟨u2, _, e2, s2, ⟨u3, _, e3, s3, ⟨u4, er, s4⟩⟩⟩⟩⟩ => by
    subst e1
    subst e2
    subst e3
    subst er
    exact ⟨l, _, ev, .inl (.inl (w2.f _ _ hl)), rfl, u1, _, rfl, u2, _, rfl, u3, _, rfl, u4, _, rfl, rfl, k F2 H2 u1 u2 u3 u4 sm w2 s1 s2 s3 s4⟩))
theorem ss_un5 {α1 α2 α3 α4 α5 : Type} {r1 : Rep α1} {r2 : Rep α2} {r3 : Rep α3} {r4 : Rep α4} {r5 : Rep α5} {n1 n2 n3 n4 n5 : Str} {p1 p2 p3 p4 p5 pt : Pos} (i1 i2 i3 i4 i5 : Nat) {ki} {x : α1 × α2 × α3 × α4 × α5} (he : EvF X e σ F M (tnR (rC r1 (rC r2 (rC r3 (rC r4 (rO r5)))))) x) (w : Own F M H)
    (k : ∀ F2 H2 u1 u2 u3 u4 u5, Same F F2 → Own F2 M H2 → r1 F2 u1 x.1 → r2 F2 u2 x.2.1 → r3 F2 u3 x.2.2.1 → r4 F2 u4 x.2.2.2.1 → r5 F2 u5 x.2.2.2.2 → WSs X rest D (List.set (List.set (List.set (List.set (List.set σ i1 (some u1)) i2 (some u2)) i3 (some u3)) i4 (some u4)) i5 (some u5)) H2)
    (hN : X.N.Nodup) (h1 : X.N[i1]? = some n1 := by rfl) (h2 : X.N[i2]? = some n2 := by rfl) (h3 : X.N[i3]? = some n3 := by rfl) (h4 : X.N[i4]? = some n4 := by rfl) (h5 : X.N[i5]? = some n5 := by rfl) (x1 : Loc X.env.scope n1 := by first | exact Or.inl rfl | exact Or.inr rfl) (x2 : Loc X.env.scope n2 := by first | exact Or.inl rfl | exact Or.inr rfl) (x3 : Loc X.env.scope n3 := by first | exact Or.inl rfl | exact Or.inr rfl) (x4 : Loc X.env.scope n4 := by first | exact Or.inl rfl | exact Or.inr rfl) (x5 : Loc X.env.scope n5 := by first | exact Or.inl rfl | exact Or.inr rfl) (f1 : Lc X n1 := by first | exact .inl rfl | exact .inr rfl) (f2 : Lc X n2 := by first | exact .inl rfl | exact .inr rfl) (f3 : Lc X n3 := by first | exact .inl rfl | exact .inr rfl) (f4 : Lc X n4 := by first | exact .inl rfl | exact .inr rfl) (f5 : Lc X n5 := by first | exact .inl rfl | exact .inr rfl) (hc : X.calm = true := by rfl)
    (z1 : swapsWithSole [.Tuple [.Name n1 p1, .Name n2 p2, .Name n3 p3, .Name n4 p4, .Name n5 p5] ki pt] e pos.line X.env = pure false := by rfl) (z2 : swappedStores [.Tuple [.Name n1 p1, .Name n2 p2, .Name n3 p3, .Name n4 p4, .Name n5 p5] ki pt] e X.env = pure none := by rfl) (z3 : (assignEach [.Tuple [.Name n1 p1, .Name n2 p2, .Name n3 p3, .Name n4 p4, .Name n5 p5] ki pt] X.env).map (·.2) = [assign (.Tuple [.Name n1 p1, .Name n2 p2, .Name n3 p3, .Name n4 p4, .Name n5 p5] ki pt) X.env] := by rfl)
    (q1 : (assignEach [.Name n1 p1, .Name n2 p2, .Name n3 p3, .Name n4 p4, .Name n5 p5] X.env).map (·.2) = assign (.Name n1 p1) X.env :: (assignEach [.Name n2 p2, .Name n3 p3, .Name n4 p4, .Name n5 p5] X.env).map (·.2) := by rfl)
    (q2 : (assignEach [.Name n2 p2, .Name n3 p3, .Name n4 p4, .Name n5 p5] X.env).map (·.2) = assign (.Name n2 p2) X.env :: (assignEach [.Name n3 p3, .Name n4 p4, .Name n5 p5] X.env).map (·.2) := by rfl)
    (q3 : (assignEach [.Name n3 p3, .Name n4 p4, .Name n5 p5] X.env).map (·.2) = assign (.Name n3 p3) X.env :: (assignEach [.Name n4 p4, .Name n5 p5] X.env).map (·.2) := by rfl)
    (q4 : (assignEach [.Name n4 p4, .Name n5 p5] X.env).map (·.2) = assign (.Name n4 p4) X.env :: (assignEach [.Name n5 p5] X.env).map (·.2) := by rfl)
    (q5 : (assignEach [.Name n5 p5] X.env).map (·.2) = assign (.Name n5 p5) X.env :: (assignEach [] X.env).map (·.2) := by rfl)
    (g1 : (assignEach [.Name n1 p1, .Name n2 p2, .Name n3 p3, .Name n4 p4, .Name n5 p5] X.env).length = 5 := by rfl) (g2 : (assignEach [.Name n1 p1, .Name n2 p2, .Name n3 p3, .Name n4 p4, .Name n5 p5] X.env).findIdx? (·.1) = none := by rfl) : WSs X (.Assign [.Tuple [.Name n1 p1, .Name n2 p2, .Name n3 p3, .Name n4 p4, .Name n5 p5] ki pt] e pos :: rest) D σ H :=
  wss_cons (ws_of (ps_asg (pe_w e) (pg_tup hc (pgs_cons (pg_name hN h1 x1 f1) (pgs_cons (pg_name hN h2 x2 f2) (pgs_cons (pg_name hN h3 x3 f3) (pgs_cons (pg_name hN h4 x4 f4) (pgs_cons (pg_name hN h5 x5 f5) pgs_nil q5) q4) q3) q2) q1) g1 g2) z1 z2 z3) (he F H (Same.refl _) w _ fun F2 H2 v sm w2 ⟨l, vs, ev, hl, ⟨u1, _, e1, s1, ⟨u2, _, e2, s2, ⟨u3, _, e3, s3, ⟨u4, _, e4, s4, ⟨u5, er, s5⟩⟩⟩⟩⟩⟩ => by
    subst e1
    subst e2
    subst e3
    subst e4
    subst er
    exact ⟨l, _, ev, .inl (.inl (w2.f _ _ hl)), rfl, u1, _, rfl, u2, _, rfl, u3, _, rfl, u4, _, rfl, u5, _, rfl, rfl, k F2 H2 u1 u2 u3 u4 u5 sm w2 s1 s2 s3 s4 s5⟩))
/-- a list of two and one of more -/
theorem Ev.h2n {r2 : Rep β} {x : α × β} (h : EvF X e σ F M (h2R r r2) x) : EvF X e σ F M (hnR (rC r (rO r2))) x := h.imp fun _ _ ⟨l, u, z, e1, hl, h1, h2⟩ => ⟨l, _, e1, hl, u, _, rfl, h1, z, rfl, h2⟩
theorem Ev.h3n {r2 : Rep β} {r3 : Rep γ} {x : α × β × γ} (h : EvF X e σ F M (h3R r r2 r3) x) : EvF X e σ F M (hnR (rC r (rC r2 (rO r3)))) x := h.imp fun _ _ ⟨l, u, z, t, e1, hl, h1, h2, h3⟩ => ⟨l, _, e1, hl, u, _, rfl, h1, z, _, rfl, h2, t, rfl, h3⟩
theorem ev_hcat2 {s1 : RL γ} {k : Nat} {r1 : Rep α} {r2 : Rep β} {x : α × β} {y : γ} [m1 : Mono r1] [m2 : Mono r2] [n : MonoL s1] [l : LenL s1 k] (ha : EvF X a σ F M (hnR (rC r1 (rO r2))) x) (hb : EvF X b σ F M (hnR s1) y) (hk : k ≤ 1000 := by decide) :
    EvF X (.BinOp a .Add b pos) σ F M (hnR (rC r1 (rC r2 s1))) (x.1, x.2, y) :=
  fun F1 H1 s w Q q => we_of (pe_op op_cat (pe_w a) (pe_w b)) (ha F1 H1 s w _ fun F2 H2 v s2 w2 ⟨l1, vs, e1, hl1, u1, us, e2, g1, u2, e3, g2⟩ => hb F2 H2 (s.trans s2) w2 _ fun F3 H3 u s3 w3 ⟨l', vs', e', hl', h2'⟩ => by
    subst e2 e3
    refine ⟨l1, l', _, vs', e1, e', w3.f _ _ (s3 _ _ hl1), w3.f _ _ hl', small_of (by rw [l.len h2']; show 2 + k ≤ _; omega), fun p hp => q _ _ _ ((s2.trans s3).trans (same_new (w3.noF hp))) (w3.newF hp) ⟨p, _, rfl, upd_same, ?_⟩⟩
    exact ⟨u1, _, rfl, Mono.mono (s3.trans (same_new (w3.noF hp))) g1, u2, vs', rfl, Mono.mono (s3.trans (same_new (w3.noF hp))) g2, n.sub (Same.sub (same_new (w3.noF hp))) h2'⟩)
omit [Lams] in
theorem op_eqNil (hu : X.A.units + 64 < cLine) : OpR X (compareOp .Eq) (fun x y H Q => ∃ a b vs, x = .ref a ∧ y = .ref b ∧ SqL X.K H a vs ∧ SqL X.K H b [] ∧ Q (.bl vs.isEmpty) H) := by
  intro pins s σ H x y v u Q I rx ry h
  obtain ⟨a, b, vs, rfl, rfl, ha, hb, q⟩ := h
  obtain rfl : v = Value.ref a := rx
  obtain rfl : u = Value.ref b := ry
  obtain ⟨us, r1, p1, _⟩ := I.list ha
  obtain ⟨ws, r2, p2, _⟩ := I.list hb
  cases r2
  cases r1 with
  | nil => exact SeqAt.RcAt.lists p1.isList p2.isList rfl (by omega) (e := fun _ => true) (fun j h1 h2 => absurd h1 (by simp)) X.prog X.w X.xe (EP X pins σ Q) ⟨V.bl true, H, I, rfl, q⟩
  | cons r rr => exact SeqAt.RcAt.lists_lengths p1.isList p2.isList (by simp) (by omega) X.prog X.w X.xe (EP X pins σ Q) ⟨V.bl false, H, I, rfl, q⟩
/-- xs == [] -/
theorem bx_eqNil [m : Mono r] {xs : List α} {q2 : Pos} (hu : X.A.units + 64 < cLine) (ha : EvF X a σ F M (rdR X.K M r) xs) : Bx X (.Compare a [.Eq] [.List [] q2] pos) σ F M xs.isEmpty :=
  bx_c (ec_R (op_eqNil hu) (Φ := fun F v => rdR X.K M r F v xs ∧ True) (Ψ := fun F v => lR r F v ([] : List α)) (ha.imp fun _ _ h => ⟨h, trivial⟩) (EvN.fz (en_lst ea_nilL)) (fun F1 F2 v e h => ⟨Mono.mono e h.1, trivial⟩) fun F1 H1 v u s w hv hu Q q => by
    obtain ⟨⟨a, vs, e1, h1, h2⟩, _⟩ := hv
    obtain ⟨b, ws, e2, h3, h4⟩ := hu
    cases h4
    refine ⟨a, b, vs, e1, e2, h1.elim (fun z => Sub.sql (Same.sub w.f) z) (fun z => SqL.of (w.m _ _ z)), SqL.of (w.f _ _ h3), ?_⟩
    rw [show vs.isEmpty = xs.isEmpty by cases h2 <;> rfl]; exact q)
end
end Y

/-! ### words of parts, told by mirrors -/
namespace Y
open PySem PySem.Spec PyProof.Rows L2
/-- a kind's method that gives a new list -/
def spW [Lams] (pc : PKind → Addr) (m : PT → Rs (List Str)) (k : PKind) : Sp := FSpU (α := PT × Unit) (ac (pR pc) an) (fun x => if x.1.k = k then m x.1 else .bad) (oL (oF sR))
theorem spW_eq [Lams] {pc : PKind → Addr} {m m' : PT → Rs (List Str)} {k : PKind} (h : ∀ t, t.k = k → m t = m' t) : spW pc m k = spW pc m' k := by
  unfold spW
  congr 1
  funext x
  by_cases q : x.1.k = k
  · rw [if_pos q, if_pos q, h _ q]
  · rw [if_neg q, if_neg q]
theorem spW_never [Lams] {pc : PKind → Addr} {m : PT → Rs (List Str)} {k : PKind} (h : ∀ t, t.k = k → m t = .bad) : ∀ vs H Q E, ¬ spW pc m k vs H Q E := fun vs H Q E ⟨F, M, x, _, hb, _⟩ => hb (by
  show (if x.1.k = k then m x.1 else .bad) = .bad
  by_cases q : x.1.k = k
  · rw [if_pos q]; exact h _ q
  · exact if_neg q)
section
variable [Lams] {X : Cx} {σ : L2.St} {F M H : Hp} {a b c e o : Expr} {es : List Expr} {pos p p1 p2 apos : Pos} {α ρ : Type} {n f : Str} {k : Nat} {rest : List Stmt} {D : L2.Ends} {W : WX} {pc : PKind → Addr} {r : Rep α}
theorem EvU.toN [m : Mono r] {xs : List α} (h : EvU X e σ F M (oL (oF r)) xs) : EvN X e σ F M r xs := fun F1 H1 s1 w Q q => h F1 H1 s1 w Q fun F2 H2 R v d s2 w2 ap ho nd => by
  obtain ⟨l, ws, ds, ed, rfl, hl, hA⟩ := ho
  have hj : jnH M R l = some (.lst ws) := jnH_in hl
  have hn : M l = none := ap l (by rw [hl]; exact fun z => nomatch z)
  refine q F2 H2 l ws s2 (w2.lessM fun a x hx => ?_) (w2.d _ _ hj) hn (w2.m _ _ hj) (AO.to_A2 hA).2
  rw [jnH_out]; exact hx
  cases z : R a with
  | none => rfl
  | some y => have := ap a (by rw [z]; exact fun z => nomatch z); rw [hx] at this; cases this
/-- x.words(): by the kind's own -/
theorem ev_pmethU {m : PT → Rs (List Str)} {mw : PKind → Addr} {dw : PKind → FuncData} {t : PT} (T : PCls X.K pc) (hm : ∀ k, Meth X.K (pc k) n (mw k)) (G : ∀ k', FnOk X.prog X.w X.K X.mg X.base CX0 k (mw k') (dw k') ["self"] (spW pc m k')) (hr : Room k X.A) (hb : ∀ k', Binds X.K (dw k') ["self"] [])
    (he : EvF X o σ F M (pR pc) t) (hp : (m t).isOk) (hn : ∀ (k : PKind) (i : Int) (l : Addr) (m : Meas), (pflds k i l m).lookup n = none := by intro k i l m; cases k <;> rfl) {pl : Sem Bool}
    (ht : eval (.Call (.Attribute o n apos) [] [] pos) X.env = (do
      let ov ← eval o X.env
      standAt apos.atName
      let (f, first) ← holding [ov] (getMethod ov n pl)
      callWith pos f first (backTo pos (starEach [] X.env)) (backToKw pos (keywordEach [] X.env))) := by rfl) :
    EvU X (.Call (.Attribute o n apos) [] [] pos) σ F M (oL (oF sR)) (m t).get :=
  fun F1 H1 s w Q q => we_of (pe_meth0 (pl := pl) (pe_w o) (T.c _) (hm t.k) (G t.k) hr (hb t.k) .nil pass0 ht) (he F1 H1 s w _ fun F2 H2 v s2 w2 hv => by
    obtain ⟨p, dx, l, vs, e1, h1, h2, h3⟩ := PR.at hv
    refine ⟨p, dx, _, e1, w2.f _ _ h1, hn _ _ _ _, F2, M, (t, ()), ⟨v, [], by rw [e1]; rfl, hv, rfl⟩, ?_, w2, fun F3 H3 R u d y s3 w3 ap h hR nd => q F3 H3 R u d (s2.trans s3) w3 ap ?_ nd⟩
    · show (if t.k = t.k then m t else .bad) ≠ .bad
      rw [if_pos rfl]; exact Res.isOk_ne hp
    · have h' : (if t.k = t.k then m t else .bad) = .ok y := h
      rw [if_pos rfl] at h'
      rw [h']; exact hR)
end
end Y

/-! ### lists of unlike things: together, cut, one's own -/
namespace Y
open PySem PySem.Spec PyProof.Rows L2
/-- one row behind another -/
class AppL {α β γ : Type} (s : RL α) (t : RL β) (u : outParam (RL γ)) (f : outParam (α → β → γ)) : Prop where
  app : ∀ {F : Hp} {vs us : List V} {x : α} {y : β}, s F vs x → t F us y → u F (vs ++ us) (f x y)
instance {α β : Type} {r : Rep α} {t : RL β} : AppL (rO r) t (rC r t) (fun x y => (x, y)) := ⟨fun ⟨v, e, h⟩ k => by subst e; exact ⟨v, _, rfl, h, k⟩⟩
instance {α β γ δ : Type} {r : Rep α} {s : RL β} {t : RL γ} {u : RL δ} {f : β → γ → δ} [a : AppL s t u f] : AppL (rC r s) t (rC r u) (fun x y => (x.1, f x.2 y)) := ⟨fun ⟨v, us, e, h, q⟩ k => by subst e; exact ⟨v, _, rfl, h, a.app q k⟩⟩
theorem rO.set {α : Type} {r : Rep α} {F : Hp} {vs : List V} {x z : α} {u : V} (h : rO r F vs x) (q : r F u z) : rO r F (vs.set 0 u) z := by obtain ⟨v, e, _⟩ := h; subst e; exact ⟨u, rfl, q⟩
theorem rC.set {α β : Type} {r : Rep α} {s : RL β} {F : Hp} {vs : List V} {x : α × β} {z : α} {u : V} (h : rC r s F vs x) (q : r F u z) : rC r s F (vs.set 0 u) (z, x.2) := by obtain ⟨v, us, e, _, k⟩ := h; subst e; exact ⟨u, us, rfl, q, k⟩
theorem rC.setS {α β : Type} {r : Rep α} {s : RL β} {F : Hp} {vs : List V} {x : α × β} {w : β} {i : Nat} {u : V} (h : rC r s F vs x) (q : ∀ us, s F us x.2 → s F (us.set i u) w) : rC r s F (vs.set (i + 1) u) (x.1, w) := by obtain ⟨v, us, e, k1, k⟩ := h; subst e; exact ⟨v, us.set i u, rfl, k1, q us k⟩
/-- a list of unlike things, one's own -/
def oHn {β : Type} (s : RL β) : OR β := fun d F M v x => ∃ l vs, d = [l] ∧ v = .ref l ∧ M l = some (.lst vs) ∧ s F vs x
instance {β : Type} {s : RL β} [n : MonoL s] : OM (oHn s) where
  up e h := let ⟨l, vs, e1, e2, e3, e4⟩ := h; ⟨l, vs, e1, e2, e3, n.sub e e4⟩
  fr e h := by
    obtain ⟨l, vs, rfl, e2, e3, e4⟩ := h
    exact ⟨l, vs, rfl, e2, (e l (by simp)).trans e3, e4⟩
  dm h a ha := by
    obtain ⟨l, vs, rfl, e2, e3, e4⟩ := h
    rw [List.mem_singleton.mp ha, e3]; exact fun z => nomatch z
instance {β : Type} {s : RL β} [n : MonoL s] : OZ (oHn s) (hnR s) := ⟨fun s1 e h => by
  obtain ⟨l, vs, rfl, e2, e3, e4⟩ := h
  exact ⟨l, vs, e2, (e l (by simp)).trans e3, n.sub s1 e4⟩⟩
section
variable [Lams] {X : Cx} {σ : L2.St} {F M M0 H : Hp} {d d0 : List Addr} {a b c e o : Expr} {es : List Expr} {pos p p0 apos : Pos} {α β γ δ ρ : Type} {r : Rep α} {n f : Str} {rest : List Stmt} {D : L2.Ends} {sg : OS γ} {vs : List V} {v : V}
theorem ev_hcat {s : RL α} {t : RL β} {u : RL δ} {g : α → β → δ} {x : α} {y : β} {k1 k2 : Nat} [ms : MonoL s] [mt : MonoL t] [mu : MonoL u] [l1 : LenL s k1] [l2 : LenL t k2] [ap : AppL s t u g] (ha : EvF X a σ F M (hnR s) x) (hb : EvF X b σ F M (hnR t) y) (hk : k1 + k2 ≤ 1000 := by decide) :
    EvF X (.BinOp a .Add b pos) σ F M (hnR u) (g x y) :=
  fun F1 H1 s w Q q => we_of (pe_op op_cat (pe_w a) (pe_w b)) (ha F1 H1 s w _ fun F2 H2 v s2 w2 ⟨l1', vs, e1, hl1, h1⟩ => hb F2 H2 (s.trans s2) w2 _ fun F3 H3 u' s3 w3 ⟨l2', us, e2, hl2, h2⟩ => by
    refine ⟨l1', l2', vs, us, e1, e2, w3.f _ _ (s3 _ _ hl1), w3.f _ _ hl2, small_of (by rw [l1.len h1, l2.len h2]; omega), fun p hp => q _ _ _ ((s2.trans s3).trans (same_new (w3.noF hp))) (w3.newF hp) ⟨p, _, rfl, upd_same, ?_⟩⟩
    exact mu.sub (Same.sub (same_new (w3.noF hp))) (ap.app (ms.sub (Same.sub s3) h1) h2))
abbrev r7 : RL (Int × Int × Int × Int × Option Int × Option Int × List Str) := rC iR (rC iR (rC iR (rC iR (rC (oR iR) (rC (oR iR) (rO (lR sR)))))))
/-- due[:6] -/
theorem en_h7cut6 {x : Int × Int × Int × Int × Option Int × Option Int × List Str} {p2 p4 : Pos} {j} (ha : EvF X a σ F M (hnR r7) x) : EvN X (.Subscript a (.Slice none (some (.Constant (.int 6) j p4)) none p2) pos) σ F M (oR iR) [some x.1, some x.2.1, some x.2.2.1, some x.2.2.2.1, x.2.2.2.2.1, x.2.2.2.2.2.1] :=
  fun F1 H1 s w Q q => we_of (pe_slice sl_list (pe_w a) (po_w none) (po_w (some (.Constant (.int 6) j p4)))) (ha F1 H1 s w _ fun F2 H2 v s2 w2 ⟨l, vs, e, hl, v1, _, e1, h1, v2, _, e2, h2, v3, _, e3, h3, v4, _, e4, h4, v5, _, e5, h5, v6, _, e6, h6, v7, e7, h7⟩ => EvO.run (X := X) (e := none) (o := none) trivial (s.trans s2) w2 _ fun F3 H3 s3 w3 => EvO.run (X := X) (e := some (.Constant (.int 6) j p4)) (o := some 6) (show EvF X (.Constant (.int 6) j p4) σ F M iR 6 from ev_int) ((s.trans s2).trans s3) w3 _ fun F4 H4 s4 w4 =>
    ⟨l, _, e, SqL.of (w4.f _ _ (s4 _ _ (s3 _ _ hl))), fun p hp => by
      refine q F4 _ p _ ((s2.trans s3).trans s4) (w4.more hp) (w4.noF hp) (w4.noM hp) upd_same ?_
      subst e1 e2 e3 e4 e5 e6 e7
      show A2 _ [v1, v2, v3, v4, v5, v6] _
      have st := s3.trans s4
      exact .cons (Mono.mono (r := oR iR) st h1) (.cons (Mono.mono (r := oR iR) st h2) (.cons (Mono.mono (r := oR iR) st h3) (.cons (Mono.mono (r := oR iR) st h4) (.cons (Mono.mono st h5) (.cons (Mono.mono st h6) .nil)))))⟩)
theorem eu_hn {s : RL β} {x : β} {k : Nat} [n : MonoL s] [l : LenL s k] (h : EvA X es σ F M fun F us => s F us x) (hl : k ≤ 1000 := by decide) : EvU X (.List es pos) σ F M (oHn s) x :=
  fun F1 H1 s1 w Q q => we_of (pe_lst (pa_w es)) (h F1 H1 s1 w _ fun F2 H2 vs s2 w2 hv => ⟨small_of (Nat.le_trans (by rw [l.len hv]; exact hl) (by decide)), fun p hp => by
    have e : jnH M (upd (fun _ => none) p (.lst vs)) = upd M p (.lst vs) := by
      funext a
      by_cases z : a = p
      · subst z; rw [upd_same]; exact jnH_in upd_same
      · rw [upd_ne z]; exact jnH_out (by rw [upd_ne z])
    refine q F2 _ (upd (fun _ => none) p (.lst vs)) (.ref p) [p] s2 (by rw [e]; exact w2.newM hp) (fun a ha => ?_) ⟨p, vs, rfl, rfl, upd_same, hv⟩ (by simp)
    by_cases z : a = p
    · subst z; exact w2.noM hp
    · rw [upd_ne z] at ha; exact absurd rfl ha⟩)
theorem SH.hn {s : RL β} {z : γ} {x : β} {put : β → γ} (h : SH M0 d0 sg d F M H vs z) (f : Foc sg d F M vs (oHn s) v x put) : ∃ l ws, v = .ref l ∧ M l = some (.lst ws) ∧ s F ws x ∧
    ∀ F2 H2 ws' x', Same F F2 → Own F2 (upd M l (.lst ws')) H2 → s F2 ws' x' → ∃ d', SH M0 d0 sg d' F2 (upd M l (.lst ws')) H2 vs (put x') := by
  have f0 := f
  obtain ⟨di, rs, p, h1, kk⟩ := f0
  obtain ⟨l, ws, rfl, rfl, hM, hA⟩ := h1
  refine ⟨l, ws, rfl, hM, hA, fun F2 H2 ws' x' e w q => ?_⟩
  refine h.cell (ho := .lst ws) (nodup_hd p h.nd).1 f F2 H2 x' e w fun di rs p h1 => ?_
  obtain ⟨l', ws2, rfl, e1, _, _⟩ := h1
  cases e1
  exact ⟨(nodup_hd p h.nd).2, [l], fun a ha => ha, by simp, l, ws', rfl, rfl, upd_same, q⟩
/-- x[i] = e, i written -/
theorem sh_hput {s : RL β} {x x' : β} {z : ρ} {rz : Rep ρ} {put : β → γ} {y : γ} {q2 : Pos} {j : Int} {k0} {q3 : Pos} {kl : Nat} [ms : MonoL s] [l : LenL s kl] [m : Mono rz] [q : OMS sg] (i : Nat) (h : SH M0 d0 sg d F M H vs y) (f : Foc sg d F M vs (oHn s) v x put) (ho : EvV X a σ F M v) (he : EvF X e σ F M rz z) (hset : ∀ F vs u, s F vs x → rz F u z → s F (vs.set i u) x')
    (k : ∀ F2 M2 H2 d2, Same F F2 → SH M0 d0 sg d2 F2 M2 H2 vs (put x') → WSs X rest D σ H2) (hi : i < kl := by decide) (hj : (i : Int) = j := by rfl)
    (z1 : swapsWithSole [.Subscript a (.Constant (.int j) k0 q3) q2] e pos.line X.env = pure false := by rfl) (z2 : swappedStores [.Subscript a (.Constant (.int j) k0 q3) q2] e X.env = pure none := by rfl)
    (z3 : (assignEach [.Subscript a (.Constant (.int j) k0 q3) q2] X.env).map (·.2) = [assign (.Subscript a (.Constant (.int j) k0 q3) q2) X.env] := by rfl)
    (z4 : ∀ v, assign (.Subscript a (.Constant (.int j) k0 q3) q2) X.env v = (do
      let ov ← holding [v] (eval a X.env)
      let iv ← holding [v, ov] (eval (.Constant (.int j) k0 q3) X.env)
      standAt q2
      holding [v, ov, iv] (setItem ov iv v)
      release [v, ov, iv] []) := by intro _; rfl) :
    WSs X (.Assign [.Subscript a (.Constant (.int j) k0 q3) q2] e pos :: rest) D σ H := by
  obtain ⟨l', ws, rfl, hM, hA, kk⟩ := h.hn f
  have hlen := l.len hA
  refine wss_cons (ws_of (ps_asg (pe_w e) (pg_sub (pe_w a) pe_int set_list z4) z1 z2 z3) (he F H (Same.refl _) h.w _ fun F2 H2 v3 s2 w2 hv3 => ho F2 H2 s2 w2 _ fun F3 H3 v2 s3 w3 hv =>
    ⟨l', ws, j, i, hv, rfl, w3.m _ _ hM, ?_, ?_⟩))
  · unfold ixN
    rw [hlen, if_pos (by omega), if_pos (by omega)]
    congr 1; omega
  · obtain ⟨d2, h2⟩ := kk F3 _ (ws.set i v3) x' (s2.trans s3) (w3.put hM) (hset _ _ _ (ms.sub (Same.sub (s2.trans s3)) hA) (Mono.mono s3 hv3))
    exact k F3 _ _ d2 (s2.trans s3) h2
end
end Y

/-! ### in a tuple of three; a list of two as two things -/
namespace Y
open PySem PySem.Spec PyProof.Rows L2
section
variable [Lams] {X : Cx} {σ : L2.St} {F M H : Hp} {a b c e o : Expr} {pos p : Pos} {α : Type} {r : Rep α}
theorem bx_inT3 {i : Int} {x : Int × Int × Int} (ha : EvF X a σ F M iR i) (hb : EvF X b σ F M (t3R iR iR iR) x) (hm : behindInMarks .In b = false := by rfl) : Bx X (.Compare a [.In] [b] pos) σ F M (decide (i ∈ [x.1, x.2.1, x.2.2])) :=
  bx_c (ec_R op_in_seq ha hb (fun _ _ _ _ h => h) fun F1 H1 v u _ w hv ⟨l, u1, u2, u3, e, hl, h1, h2, h3⟩ Q q => by
    cases (show v = V.int i from hv)
    cases (show u1 = V.int _ from h1)
    cases (show u2 = V.int _ from h2)
    cases (show u3 = V.int _ from h3)
    refine ⟨l, [x.1, x.2.1, x.2.2].map V.int, e, .inr (.inl (.inl (w.f _ _ hl))), rfl, flat_ints _, ?_⟩
    rw [inV_ints]; exact q) hm
theorem bx_niT3 {i : Int} {x : Int × Int × Int} (ha : EvF X a σ F M iR i) (hb : EvF X b σ F M (t3R iR iR iR) x) (hm : behindInMarks .NotIn b = false := by rfl) : Bx X (.Compare a [.NotIn] [b] pos) σ F M (!decide (i ∈ [x.1, x.2.1, x.2.2])) :=
  bx_c (ec_R op_notIn_seq ha hb (fun _ _ _ _ h => h) fun F1 H1 v u _ w hv ⟨l, u1, u2, u3, e, hl, h1, h2, h3⟩ Q q => by
    cases (show v = V.int i from hv)
    cases (show u1 = V.int _ from h1)
    cases (show u2 = V.int _ from h2)
    cases (show u3 = V.int _ from h3)
    refine ⟨l, [x.1, x.2.1, x.2.2].map V.int, e, .inr (.inl (.inl (w.f _ _ hl))), rfl, flat_ints _, ?_⟩
    rw [inV_ints]; exact q) hm
theorem Ev.l2h [Inhabited α] {xs : List α} (h : EvF X e σ F M (lR r) xs) (hl : xs.length = 2) : EvF X e σ F M (hnR (rC r (rO r))) (gI xs 0, gI xs 1) := h.imp fun F v ⟨l, vs, e1, h1, h2⟩ => by
  match xs, hl with
  | [x, y], _ =>
    cases h2 with
    | cons q1 t => cases t with
      | cons q2 t => cases t; exact ⟨l, _, e1, h1, _, _, rfl, q1, _, rfl, q2⟩
end
end Y

/-! ### lists handed on, one's own or not; lists of the very same things -/
namespace Y
open PySem PySem.Spec PyProof.Rows L2
theorem vals_refs : ∀ {vs : List V} {us ws : List Value}, (∀ v ∈ vs, ∃ p, v = V.ref p) → Vals vs us → Vals vs ws → us = ws
  | [], _, _, _, h1, h2 => by cases h1; cases h2; rfl
  | v :: vs, _, _, h, .cons r1 h1, .cons r2 h2 => by
    obtain ⟨p, rfl⟩ := h v (by simp)
    rw [show _ = Value.ref p from r1, show _ = Value.ref p from r2, vals_refs (fun v hv => h v (by simp [hv])) h1 h2]
theorem vals_ref_at : ∀ {vs : List V} {us : List Value}, (∀ v ∈ vs, ∃ p, v = V.ref p) → Vals vs us → ∀ u ∈ us, ∃ p, u = Value.ref p
  | [], _, _, h1, u, hu => by cases h1; cases hu
  | v :: vs, _, h, .cons r1 h1, u, hu => by
    obtain ⟨p, rfl⟩ := h v (by simp)
    rcases List.mem_cons.mp hu with e | hu
    · exact ⟨p, e.trans r1⟩
    · exact vals_ref_at (fun v hv => h v (by simp [hv])) h1 u hu
/-- two lists of the very same things -/
theorem op_neSame {X : Cx} (hu : X.A.units + 64 < cLine) : OpR X (compareOp .NotEq) (fun x y H Q => ∃ a b vs, x = .ref a ∧ y = .ref b ∧ SqL X.K H a vs ∧ SqL X.K H b vs ∧ (∀ v ∈ vs, ∃ p, v = V.ref p) ∧ Q (.bl false) H) := by
  intro pins s σ H x y v u Q I rx ry h
  obtain ⟨a, b, vs, rfl, rfl, ha, hb, hr, q⟩ := h
  obtain rfl : v = Value.ref a := rx
  obtain rfl : u = Value.ref b := ry
  obtain ⟨us, r1, p1, _⟩ := I.list ha
  obtain ⟨ws, r2, p2, _⟩ := I.list hb
  obtain rfl := vals_refs hr r1 r2
  refine SeqAt.RcNeAt.lists p1.isList p2.isList rfl (by omega) (e := fun _ => true) (fun j h1 h2 => ?_) X.prog X.w X.xe (EP X pins σ Q) ⟨V.bl false, H, I, ?_, q⟩
  · obtain ⟨p, hp⟩ := vals_ref_at hr r1 (us.toArray[j]) (by simp)
    rw [hp]
    exact SeqAt.EqAt.same (Value.ref p)
  · rw [show ((List.range us.toArray.size).all fun _ => true) = true from List.all_eq_true.mpr fun _ _ => rfl]
    rfl
theorem pR_refs {pc : PKind → Addr} {F : Hp} : ∀ {vs : List V} {ts : List PT}, A2 (pR pc F) vs ts → ∀ v ∈ vs, ∃ p, v = V.ref p
  | _, _, .nil, v, hv => by cases hv
  | _, _, .cons h t, v, hv => by
    rcases List.mem_cons.mp hv with e | hv
    · obtain ⟨p, _, _, _, e1, _⟩ := PR.at h
      exact ⟨p, e.trans e1⟩
    · exact pR_refs t v hv
/-- a list of one's own, of these very things -/
def oLV {α : Type} (r : Rep α) (ws : List V) : OR (List α) := fun d F M v xs => ∃ l, d = [l] ∧ v = .ref l ∧ M l = some (.lst ws) ∧ A2 (r F) ws xs
instance {α : Type} {r : Rep α} {ws : List V} [m : Mono r] : OM (oLV r ws) where
  up e h := let ⟨l, e1, e2, e3, e4⟩ := h; ⟨l, e1, e2, e3, e4.sub e⟩
  fr e h := by
    obtain ⟨l, rfl, e2, e3, e4⟩ := h
    exact ⟨l, rfl, e2, (e l (by simp)).trans e3, e4⟩
  dm h a ha := by
    obtain ⟨l, rfl, e2, e3, e4⟩ := h
    rw [List.mem_singleton.mp ha, e3]; exact fun z => nomatch z
instance {α : Type} {r : Rep α} {ws : List V} [m : Mono r] : OZ (oLV r ws) (lR r) := ⟨fun s1 e h => by
  obtain ⟨l, rfl, e2, e3, e4⟩ := h
  exact ⟨l, ws, e2, (e l (by simp)).trans e3, e4.sub s1⟩⟩
theorem rtR.upM {F M M2 : Hp} {α : Type} {r : Rep α} {v : V} {xs : List α} (h : rtR M r F v xs) (s : Same M M2) : rtR M2 r F v xs := let ⟨a, vs, h1, h2, h3⟩ := h; ⟨a, vs, h1, h2.imp id (s _ _), h3⟩
section
variable [Lams] {X : Cx} {σ : L2.St} {F M M0 H : Hp} {d d0 : List Addr} {a b c e o : Expr} {es : List Expr} {pos p p1 p2 apos : Pos} {α β ρ : Type} {r : Rep α} {n f : Str} {k : Nat} {rest : List Stmt} {D : L2.Ends} {W : WX} {pc : PKind → Addr} {xa : XA} {ws : List V} {s : OS β} {vs : List V} {v : V} {y : β}
theorem EvP.rtV [m : Mono r] {xs : List α} (h : EvP X e σ F M (oLV r ws) xs) : EvF X e σ F M (rtR M r) xs := h.imp fun F v ⟨d, l, _, e2, e3, e4⟩ => ⟨l, ws, e2, .inr e3, e4⟩
theorem SH.convV {xs : List α} (h : SH M0 d0 (oC (oLV r ws) s) d F M H (v :: vs) (xs, y)) : SH M0 d0 (oC (oL (oF r)) s) d F M H (v :: vs) (xs, y) := by
  obtain ⟨w, g, nd, n0, sM⟩ := h
  obtain ⟨d1, d2, rfl, ⟨l, rfl, rfl, e3, e4⟩, h2⟩ := oC.at g
  exact ⟨w, oC.mk (oL.mk e3 e4) h2, nd, n0, sM⟩
/-- list(x), x a list of these things -/
theorem eu_listV [m : Mono r] {xs : List α} {lp : Addr} (hm : X.mg "list" = none) (ha : Ev X a σ F M fun F v => v = .ref lp) (hF : F lp = some (.lst ws)) (hA : A2 (r F) ws xs) (hg : Gl X "list" := by rfl) (he : starEach [a] X.env = (false, eval a X.env) :: starEach [] X.env := by rfl) (hpl : (backTo pos (starEach [] X.env)).any (·.1) = false := by rfl) :
    EvU X (.Call (.Name "list" p) [a] [] pos) σ F M (oLV r ws) xs :=
  fun F1 H1 s1 w Q q => we_of (pe_callTy call_list_of hg hm (by decide +kernel) (pa_cons (pe_w a) pa_nil he) (he := he) (hpl := hpl)) (ha F1 H1 s1 w _ fun F2 H2 v s2 w2 hv =>
    ⟨lp, ws, by rw [hv], .inl (SqL.of (w2.f _ _ (s2 _ _ (s1 _ _ hF)))), fun p hp => by
      have e : jnH M (upd (fun _ => none) p (.lst ws)) = upd M p (.lst ws) := by
        funext a
        by_cases z : a = p
        · subst z; rw [upd_same]; exact jnH_in upd_same
        · rw [upd_ne z]; exact jnH_out (by rw [upd_ne z])
      refine q F2 _ (upd (fun _ => none) p (.lst ws)) (.ref p) [p] s2 (by rw [e]; exact w2.newM hp) (fun a ha => ?_) ⟨p, rfl, rfl, upd_same, hA.up (s1.trans s2)⟩ (by simp)
      by_cases z : a = p
      · subst z; exact w2.noM hp
      · rw [upd_ne z] at ha; exact absurd rfl ha⟩)
/-- x != y: one's own and one that stands, of the very same things -/
theorem bx_neV [m : Mono r] {xs : List α} {lp : Addr} (hu : X.A.units + 64 < cLine) (ha : EvP X a σ F M (oLV r ws) xs) (hb : Ev X b σ F M fun F v => v = .ref lp) (hF : F lp = some (.lst ws)) (hr : ∀ v ∈ ws, ∃ p, v = V.ref p) : Bx X (.Compare a [.NotEq] [b] pos) σ F M false :=
  bx_c (ec_R (op_neSame hu) (Φ := fun F v => ∃ l, v = .ref l ∧ M l = some (.lst ws)) (ha.imp fun F v ⟨d, l, _, e2, e3, _⟩ => ⟨l, e2, e3⟩) hb (fun _ _ _ _ h => h) fun F1 H1 v u s w ⟨l, e1, h1⟩ e2 Q q =>
    ⟨l, lp, ws, e1, e2, SqL.of (w.m _ _ h1), SqL.of (w.f _ _ (s _ _ hF)), hr, q⟩)
/-- a list that is one's own, or not: it stands while something is asked of it -/
theorem Ev.coolT [m : Mono r] {q : Rep ρ} {z : ρ} [f : Flat q] {xs : List α} (hO : rtR M r F v xs) (h : ∀ F' M', Sub F F' → lR r F' v xs → EvF X e σ F' M' q z) : EvF X e σ F M q z := by
  obtain ⟨l, ws, rfl, hl, hA⟩ := hO
  rcases hl with hl | hl
  · exact h F M (Same.sub (Same.refl _)) ⟨l, ws, rfl, hl, hA⟩
  · exact Ev.cool (o := oL (oF r)) (r := lR r) (oL.mk hl hA) fun F' s1 h1 => h F' _ s1 h1
end
/-- an __init__'s promise, told of what is one's own of its arguments too -/
def FSpIM [Lams] {α : Type} (PC : Addr → Prop) (A : Hp → AR α) (pre : α → Prop) (post : α → Hp → List (Str × V) → Prop) (Rx : α → Hp → Value → Option Addr → Prop) : Sp := fun vs H Q E => ∃ F M C x dx us a, vs = .ref x :: us ∧ A M F us a ∧ pre a ∧ PC C ∧ dx ≠ x ∧ M x = none ∧ M dx = none ∧ Own F (upd (upd M dx (.own x)) x (.ins C dx [])) H ∧
  (∀ F2 H2 fs, Same F F2 → Own F2 (upd (upd M dx (.own x)) x (.ins C dx fs)) H2 → post a F2 fs → Q .non H2) ∧ ∀ F2 H2 c d, Same F F2 → Own F2 M H2 → Rx a F2 c d → E c d H2
def PSpM [Lams] (xa : XA) (pc : PKind → Addr) (kk : PKind) {α : Type} (A : Hp → AR α) (m : α → Rs PT) : Sp :=
  FSpIM (fun C => C = pc kk) A (fun x => m x ≠ .bad) (fun x F fs => ∃ t : PT, m x = .ok t ∧ t.k = kk ∧ PMade pc F fs t) (fun x F c d => ∃ e, m x = .ex e () ∧ exR xa e F c d)
section
variable [Lams] {X : Cx} {σ : L2.St} {F M H : Hp} {a b c e o : Expr} {es : List Expr} {pos p p1 p2 apos : Pos} {α β : Type} {r : Rep β} {n f : Str} {k : Nat} {rest : List Stmt} {D : L2.Ends} {W : WX} {pc : PKind → Addr} {xa : XA}
theorem ev_makeM {A : Hp → AR α} {fd : FuncData} {ps : List Str} {C g : Addr} {PC : Addr → Prop} {pre : α → Prop} {post : α → Hp → List (Str × V) → Prop} {Rx : α → Hp → Value → Option Addr → Prop} {x : α} {y : β} (tk : Takes X W) (K0 : Mk X.K C g) (G : FnOk X.prog X.w X.K X.mg X.base (L2.CX X.prog X.w) k g fd ps (FSpIM PC A pre post Rx)) (hr : Room (k + 1) X.A) (hm : X.mg n = some (.ref C)) (hb : Binds X.K fd ps [])
    (hC : PC C) (ha : EvA X (e :: es) σ F M fun F vs => A M F vs x) (hp : pre x) (hx : ∀ F2 H2 c d, Same F F2 → Own F2 M H2 → Rx x F2 c d → W c d σ H2)
    (hq : ∀ F2 q dx fs, F2 q = some (.ins C dx fs) → (∃ F0, Same F0 F2 ∧ post x F0 fs) → r F2 (.ref q) y)
    (hg : Gl X n := by rfl) (hdb : (n == ("__debug__" : Str)) = false := by decide) (he : starEach (e :: es) X.env = (false, eval e X.env) :: starEach es X.env := by rfl) (hpl : (backTo pos (starEach es X.env)).any (·.1) = false := by rfl) :
    EvF X (.Call (.Name n p) (e :: es) [] pos) σ F M r y :=
  fun F1 H1 s w Q q => we_of (pe_mkS K0 G hr hg hm hb (fun σ => passAt tk σ) (pa_w (e :: es)) hdb he hpl) (ha F1 H1 s w _ fun F2 H2 vs s2 w2 hv z dz nx nd ne =>
    ⟨F2, M, C, z, dz, vs, x, rfl, hv, hp, hC, ne, w2.noM nx, w2.noM nd, own_made w2 nx nd ne, fun F3 H3 fs s3 w3 h => ⟨rfl, by
      have hz : F3 z = none := w3.d z _ upd_same
      refine q (upd F3 z (.ins C dz fs)) H3 _ ((s2.trans s3).trans (same_new hz)) (own_done w3 (w2.noM nx) (w2.noM nd) ne) (hq _ z dz fs upd_same ⟨F3, same_new hz, h⟩)⟩, fun F3 H3 c d s3 w3 h => hx F3 H3 c d ((s.trans s2).trans s3) w3 h⟩)
theorem ev_makePM {A : Hp → AR α} {m : α → Rs PT} {kk : PKind} {fd : FuncData} {ps : List Str} {g : Addr} {x : α} (tk : Takes X W) (K0 : Mk X.K (pc kk) g) (G : FnOk X.prog X.w X.K X.mg X.base (L2.CX X.prog X.w) k g fd ps (PSpM xa pc kk A m)) (hr : Room (k + 1) X.A) (hm : X.mg n = some (.ref (pc kk))) (hb : Binds X.K fd ps [])
    (ha : EvA X (e :: es) σ F M fun F vs => A M F vs x) (hp : (m x).isOk)
    (hg : Gl X n := by rfl) (hdb : (n == ("__debug__" : Str)) = false := by decide) (he : starEach (e :: es) X.env = (false, eval e X.env) :: starEach es X.env := by rfl) (hpl : (backTo pos (starEach es X.env)).any (·.1) = false := by rfl) :
    EvF X (.Call (.Name n p) (e :: es) [] pos) σ F M (pR pc) (m x).get :=
  ev_makeM tk K0 G hr hm hb rfl ha (Res.isOk_ne hp) (fun F2 H2 c d _ _ ⟨e, h, _⟩ => by rw [h] at hp; exact hp.elim) (fun F2 q dx fs hq ⟨F0, s0, t, h, hk, hmd⟩ => by
    rw [h]
    show pR pc F2 (.ref q) t
    exact made_pR (by rw [hk]; exact hq) s0 hmd) hg hdb he hpl
theorem ex_makePM {A : Hp → AR α} {m : α → Rs PT} {kk : PKind} {fd : FuncData} {ps : List Str} {g : Addr} {x : α} {ee : Exc} (tk : Takes X W) (K0 : Mk X.K (pc kk) g) (G : FnOk X.prog X.w X.K X.mg X.base (L2.CX X.prog X.w) k g fd ps (PSpM xa pc kk A m)) (hr : Room (k + 1) X.A) (hm : X.mg n = some (.ref (pc kk))) (hb : Binds X.K fd ps [])
    (ha : EvA X (e :: es) σ F M fun F vs => A M F vs x) (hp : m x = .ex ee ()) (hx : ∀ F2 H2 c d, Same F F2 → Own F2 M H2 → exR xa ee F2 c d → W c d σ H2)
    (hg : Gl X n := by rfl) (hdb : (n == ("__debug__" : Str)) = false := by decide) (he : starEach (e :: es) X.env = (false, eval e X.env) :: starEach es X.env := by rfl) (hpl : (backTo pos (starEach es X.env)).any (·.1) = false := by rfl) :
    EvX X (.Call (.Name n p) (e :: es) [] pos) σ F M :=
  ev_makeM (r := fun _ _ (_ : Unit) => False) (y := ()) tk K0 G hr hm hb rfl ha (by rw [hp]; exact fun z => nomatch z) (fun F2 H2 c d s w ⟨e, h, hR⟩ => by rw [hp] at h; cases h; exact hx F2 H2 c d s w hR) (fun F2 q dx fs hq ⟨F0, s0, t, h, _⟩ => by rw [hp] at h; cases h) hg hdb he hpl
end
end Y

/-! ### comprehensions whose things are new and one's own -/
namespace Y
open PySem PySem.Spec PyProof.Rows L2
section
variable [Lams] {X : Cx} {σ : L2.St} {F M : Hp} {a b c e : Expr} {pos p p2 p3 : Pos} {α β γ δ : Type} {r : Rep α} {n n2 : Str}
/-- a block's scope, as it is known of the one around it -/
def relab (scope sc : Scope) : Scope := relabel scope { scope := sc, locals := 0, globals := 0, cells := [], qual := "", func := none, code := .none, frame := none, builtins := 0 }
omit [Lams] in
/-- a comprehension within another one's block -/
theorem blkC_in {s : Shared} {H : Hp} {C : Addr} {cl} {fp : List Addr} {scope' scope : Scope} {own : List (Str × Nat)} (h : blkC X.N (relab scope' X.env.scope) scope own = true) : blkC (X.blk s H scope' (compEnvC scope' cl C X.env) fp).N (X.blk s H scope' (compEnvC scope' cl C X.env) fp).env.scope scope own = true := h
theorem lcU_run {o : OR β} [mo : OM o] {elt tg iter : Expr} {ifs : List Expr} {scope : Scope} (own : List (Str × Nat)) {g : TG} {xs : List α} (pr : α → Bool) (f : α → β)
    (hi : EvI X tg iter σ F M r xs)
    (ht : ∀ x v F1 M1 H1, x ∈ xs → Sub F F1 → Same M M1 → Own F1 M1 H1 → r F1 v x → ∀ R : L2.St → Hp → Prop, (∀ σ2, wipe σ2 (own.map (·.2)) = wipe σ (own.map (·.2)) → (∀ Y, Blk X scope Y → EvTs Y ifs σ2 F1 M1 (pr x)) → (pr x = true → ∀ Y, Blk X scope Y → EvU Y elt σ2 F1 M1 o (f x)) → R σ2 H1) → g v (wipe σ (own.map (·.2))) H1 R)
    (hl : xs.length < 1000000)
    {F1 H1 : Hp} (s1 : Same F F1) (w1 : Own F1 M H1) {Q : VK} (q : ∀ F2 H2 R v d, Same F1 F2 → Own F2 (jnH M R) H2 → (∀ a, R a ≠ none → M a = none) → oL o d F2 R v ((xs.filter pr).map f) → d.Nodup → Q v H2) :
    tLc (WI X tg iter) g (wTs X scope ifs) (wE X scope elt) (own.map (·.2)) σ H1 Q := by
  refine hi F1 H1 s1 w1 _ fun F2 H2 J s2 w2 hy => ?_
  intro D hD
  have nM := w2.noM hD
  have e0 : jnH M (fun _ => none) = M := by funext a; exact jnH_out rfl
  refine ⟨fun i k H' => k = xs.length - i ∧ i ≤ xs.length ∧ ∃ F' R acc ds, Same F2 F' ∧ Own F' (upd (jnH M R) D (.lst acc)) H' ∧ (∀ a, R a ≠ none → M a = none) ∧ R D = none ∧ acc.length ≤ i ∧ AO o F' R ds acc (((xs.take i).filter pr).map f) ∧ ds.Nodup,
    ⟨xs.length, by simp, Nat.zero_le _, F2, fun _ => none, [], [], Same.refl _, by rw [e0]; exact w2.newM hD, fun a ha => absurd rfl ha, rfl, Nat.le_refl _, by simpa using AO.nil, List.nodup_nil⟩, ?_⟩
  rintro i k H' ⟨rfl, hi2, F3, R, acc, ds, s3, w3, hR, hRD, hla, hA, hnd⟩
  have smM : Same M (upd (jnH M R) D (.lst acc)) := fun b x hb => by
    rw [upd_ne (ne_of_none hb nM)]
    cases z : R b with
    | none => rw [jnH_out z]; exact hb
    | some y => rw [hR b (by rw [z]; exact fun q => nomatch q)] at hb; cases hb
  obtain ⟨y1, y2⟩ := hy i F3 _ H' s3 w3
  by_cases hlt : i < xs.length
  · have hget : xs[i]? = some xs[i] := by simp [hlt]
    obtain ⟨g1, g2⟩ := y2 xs[i] hget
    have htk : xs.take (i + 1) = xs.take i ++ [xs[i]] := by rw [List.take_add_one, hget]; rfl
    refine .inr ⟨g1, fun H5 => ∃ F' R acc ds, Same F2 F' ∧ Own F' (upd (jnH M R) D (.lst acc)) H5 ∧ (∀ a, R a ≠ none → M a = none) ∧ R D = none ∧ acc.length ≤ i + 1 ∧ AO o F' R ds acc (((xs.take (i + 1)).filter pr).map f) ∧ ds.Nodup, ?_, fun v H4 hv => ?_⟩
    · rintro H5 ⟨F', R', acc', ds', z⟩
      exact ⟨xs.length - (i + 1), by omega, rfl, hlt, F', R', acc', ds', z⟩
    · obtain ⟨F4, s4, w4, hr⟩ := g2 v H4 hv
      refine ht xs[i] v F4 _ H4 (List.getElem_mem hlt) (Same.sub (((s1.trans s2).trans s3).trans s4)) smM w4 hr _ fun σ2 hw h1 h2 => ⟨hw, ?_⟩
      intro Y hY
      refine h1 Y hY F4 H4 (Same.refl _) w4 _ fun F5 H5 s5 w5 => ?_
      cases hp : pr xs[i] with
      | false =>
        rw [if_neg Bool.false_ne_true]
        refine ⟨F5, R, acc, ds, (s3.trans s4).trans s5, w5, hR, hRD, by omega, ?_, hnd⟩
        rw [htk, List.filter_append]
        simp only [List.filter_cons, hp, List.filter_nil, Bool.false_eq_true, if_false, List.append_nil]
        exact hA.up (Same.sub (s4.trans s5))
      | true =>
        rw [if_pos rfl]
        intro Y2 hY2
        refine h2 hp Y2 hY2 F5 H5 s5 w5 _ fun F6 H6 R2 u d s6 w6 hR2 ho hd => ?_
        have r2D : R2 D = none := by
          cases z : R2 D with
          | none => rfl
          | some y => have := hR2 D (by rw [z]; exact fun q => nomatch q); rw [upd_same] at this; cases this
        have r2R : ∀ b, R2 b ≠ none → R b = none ∧ M b = none ∧ b ≠ D := fun b hb => by
          have h := hR2 b hb
          have ne : b ≠ D := fun z => by rw [z] at hb; exact hb r2D
          rw [upd_ne ne] at h
          cases z : R b with
          | none => rw [jnH_out z] at h; exact ⟨rfl, h, ne⟩
          | some y => rw [jnH_in z] at h; cases h
        have hD6' : jnH (upd (jnH M R) D (.lst acc)) R2 D = some (.lst acc) := (jnH_out r2D).trans upd_same
        have hD6 : H6 D = some (.lst acc) := w6.m _ _ hD6'
        have eM : upd (jnH (upd (jnH M R) D (.lst acc)) R2) D (.lst (acc ++ [u])) = upd (jnH M (jnH R R2)) D (.lst (acc ++ [u])) := by
          funext b
          by_cases z : b = D
          · subst z; rw [upd_same, upd_same]
          · rw [upd_ne z, upd_ne z]
            cases z2 : R2 b with
            | some y => rw [jnH_in z2, jnH_in (jnH_in z2)]
            | none =>
              rw [jnH_out z2, upd_ne z]
              cases z3 : R b with
              | some y => rw [jnH_in z3, jnH_in (R := jnH R R2) ((jnH_out z2).trans z3)]
              | none => rw [jnH_out z3, jnH_out (R := jnH R R2) ((jnH_out z2).trans z3)]
        refine ⟨acc, hD6, Nat.lt_of_lt_of_le (show acc.length < 1000000 by omega) (by decide), F6, jnH R R2, acc ++ [u], ds ++ d, ((s3.trans s4).trans s5).trans s6, ?_, fun b hb => ?_, (jnH_out r2D).trans hRD, by simp; omega, ?_, ?_⟩
        · have := w6.put (p := D) (o := .lst (acc ++ [u])) hD6'
          rw [eM] at this
          exact this
        · cases z2 : R2 b with
          | some y => exact (r2R b (by rw [z2]; exact fun q => nomatch q)).2.1
          | none => rw [jnH_out z2] at hb; exact hR b hb
        · rw [htk, List.filter_append, List.map_append]
          simp only [List.filter_cons, hp, List.filter_nil, if_true, List.map_cons, List.map_nil]
          refine AO.push ((hA.up (Same.sub ((s4.trans s5).trans s6))).fr fun b hb => ?_) (mo.fr (fun b hb => ?_) ho)
          · have nb := hA.dm b hb
            cases z2 : R2 b with
            | none => exact jnH_out z2
            | some y => exact absurd (r2R b (by rw [z2]; exact fun q => nomatch q)).1 nb
          · have nb := mo.dm ho b hb
            cases z2 : R2 b with
            | none => exact absurd z2 nb
            | some y => exact jnH_in z2
        · refine List.nodup_append.mpr ⟨hnd, hd, fun b hb b2 hb2 z => ?_⟩
          subst z
          exact hA.dm b hb (r2R b (mo.dm ho b hb2)).1
  · have e : i = xs.length := by omega
    subst e
    refine .inl ⟨y1 (Nat.le_refl _), ?_⟩
    rw [List.take_length] at hA
    have eM : upd (jnH M R) D (.lst acc) = jnH M (upd R D (.lst acc)) := by
      funext b
      by_cases z : b = D
      · subst z; rw [upd_same, jnH_in upd_same]
      · rw [upd_ne z]
        cases z3 : R b with
        | some y => rw [jnH_in z3, jnH_in ((upd_ne z).trans z3)]
        | none => rw [jnH_out z3, jnH_out ((upd_ne z).trans z3)]
    rw [eM] at w3
    refine q F3 H' (upd R D (.lst acc)) (.ref D) (D :: ds) (s2.trans s3) w3 (fun b hb => ?_) ⟨D, acc, ds, rfl, rfl, upd_same, hA.fr fun b hb => upd_ne fun z => ?_⟩ (List.nodup_cons.mpr ⟨fun z => ?_, hnd⟩)
    · by_cases z : b = D
      · subst z; exact nM
      · rw [upd_ne z] at hb; exact hR b hb
    · subst z; exact hA.dm _ hb hRD
    · exact hA.dm _ z hRD
theorem eu_lc_core {o : OR β} [mo : OM o] {elt tg iter : Expr} {ifs : List Expr} {scope : Scope} (own : List (Str × Nat)) {g : TG} {xs : List α} (pr : α → Bool) (f : α → β)
    (hi : EvI X tg iter σ F M r xs)
    (hg : ∀ (s : Shared) (H : Hp) (C : Addr) (cl : List (Str × Addr)) (fp : List Addr), PG (X.blk s H scope (compEnvC scope cl C X.env) fp) tg g)
    (ht : ∀ x v F1 M1 H1, x ∈ xs → Sub F F1 → Same M M1 → Own F1 M1 H1 → r F1 v x → ∀ R : L2.St → Hp → Prop, (∀ σ2, wipe σ2 (own.map (·.2)) = wipe σ (own.map (·.2)) → (∀ Y, Blk X scope Y → EvTs Y ifs σ2 F1 M1 (pr x)) → (pr x = true → ∀ Y, Blk X scope Y → EvU Y elt σ2 F1 M1 o (f x)) → R σ2 H1) → g v (wipe σ (own.map (·.2))) H1 R)
    (hl : xs.length < 1000000) (hN : X.N.Nodup) (ok : BlkOk X.N X.env.scope scope own) (hc : X.calm = true := by rfl) (hs : ∀ x, foldedSetIterable iter X.env x = pure x := by intro _; rfl) :
    EvU X (.ListComp elt [⟨tg, iter, ifs, 0⟩] scope pos) σ F M (oL o) ((xs.filter pr).map f) := fun F1 H1 s1 w1 Q q =>
  we_of (pe_lc (g := g) (tt := wTs X scope ifs) (te := wE X scope elt) hc hN (pi_w tg iter) ok hg (fun s' H' C cl fp => ⟨fun pins s2 σ2 H2 Q2 I h => h _ ⟨s', H', C, cl, fp, rfl⟩ pins s2 I⟩) (fun s' H' C cl fp => ⟨fun pins s2 σ2 H2 Q2 I h => h _ ⟨s', H', C, cl, fp, rfl⟩ pins s2 I⟩) hs)
    (lcU_run own pr f hi ht hl s1 w1 q)
theorem ss_lcU_core {s : OS γ} [q : OMS s] {y : γ} {vs : List V} {M0 : Hp} {d0 d : List Addr} {o : OR β} [mo : OM o] (i : Nat) {yn : Str} {py : Pos} {D : L2.Ends} {rest : List Stmt} {spos : Pos} {H : Hp} {elt tg iter : Expr} {ifs : List Expr} {scope : Scope} (own : List (Str × Nat)) {g : TG} {xs : List α} (pr : α → Bool) (f : α → β)
    (hi : EvI X tg iter σ F M r xs)
    (hg : ∀ (s : Shared) (H : Hp) (C : Addr) (cl : List (Str × Addr)) (fp : List Addr), PG (X.blk s H scope (compEnvC scope cl C X.env) fp) tg g)
    (ht : ∀ x v F1 M1 H1, x ∈ xs → Sub F F1 → Same M M1 → Own F1 M1 H1 → r F1 v x → ∀ R : L2.St → Hp → Prop, (∀ σ2, wipe σ2 (own.map (·.2)) = wipe σ (own.map (·.2)) → (∀ Y, Blk X scope Y → EvTs Y ifs σ2 F1 M1 (pr x)) → (pr x = true → ∀ Y, Blk X scope Y → EvU Y elt σ2 F1 M1 o (f x)) → R σ2 H1) → g v (wipe σ (own.map (·.2))) H1 R)
    (hl : xs.length < 1000000) (hN : X.N.Nodup) (ok : BlkOk X.N X.env.scope scope own) (h : SH M0 d0 s d F M H vs y)
    (k : ∀ F2 M2 H2 v d2, Same F F2 → SH M0 d0 (oC (oL o) s) d2 F2 M2 H2 (v :: vs) ((xs.filter pr).map f, y) → WSs X rest D (σ.set i (some v)) H2)
    (hy : X.N[i]? = some yn) (hyl : X.env.scope.names.lookup yn = some .local) (hsw : swapsWith (.ListComp elt [⟨tg, iter, ifs, 0⟩] scope pos) (some (.Name yn py)) spos.line X.env = pure true)
    (hc : X.calm = true := by rfl) (hs : ∀ x, foldedSetIterable iter X.env x = pure x := by intro _; rfl) :
    WSs X (.Assign [.Name yn py] (.ListComp elt [⟨tg, iter, ifs, 0⟩] scope pos) spos :: rest) D σ H :=
  wss_cons (ws_of (ps_setLc (i := i) (g := g) (tt := wTs X scope ifs) (te := wE X scope elt) hc hN hy hyl hsw (pi_w tg iter) ok hg (fun s' H' C cl fp => ⟨fun pins s2 σ2 H2 Q2 I h => h _ ⟨s', H', C, cl, fp, rfl⟩ pins s2 I⟩) (fun s' H' C cl fp => ⟨fun pins s2 σ2 H2 Q2 I h => h _ ⟨s', H', C, cl, fp, rfl⟩ pins s2 I⟩) hs)
    (lcU_run own pr f hi ht hl (Same.refl _) h.w fun F2 H2 R v d1 s2 w2 ap hq nd => k F2 _ H2 v _ s2 (h.new s2 w2 ap hq nd)))
/-- [elt for x in it if ..], x in slot i -/
theorem eu_lc {o : OR β} [mo : OM o] (i : Nat) {elt it : Expr} {ifs : List Expr} {scope : Scope} {xs : List α} (pr : α → Bool) (f : α → β)
    (hi : EvI X (.Name n p) it σ F M r xs)
    (ht : ∀ x v F1 M1, x ∈ xs → Sub F F1 → Same M M1 → r F1 v x → ∀ Y, Blk X scope Y → EvTs Y ifs (((wipe σ [i])).set i (some v)) F1 M1 (pr x) ∧ (pr x = true → EvU Y elt ((wipe σ [i]).set i (some v)) F1 M1 o (f x)))
    (hl : xs.length < 1000000) (hN : X.N.Nodup) (hb : blkC X.N X.env.scope scope [(n, i)] = true := by decide +kernel) (hc : X.calm = true := by rfl)
    (hg : ∀ (s : Shared) (H : Hp) (C : Addr) (cl : List (Str × Addr)) (fp : List Addr), PG (X.blk s H scope (compEnvC scope cl C X.env) fp) (.Name n p) (gName i) := by exact fun _ _ _ _ _ => pg_name (by assumption) rfl (Or.inl rfl))
    (hs : ∀ x, foldedSetIterable it X.env x = pure x := by intro _; rfl) :
    EvU X (.ListComp elt [⟨.Name n p, it, ifs, 0⟩] scope pos) σ F M (oL o) ((xs.filter pr).map f) :=
  eu_lc_core [(n, i)] (g := gName i) pr f hi hg (fun x v F1 M1 H1 hx s1 s2 w hr R k => k _ (by
      show (List.set (List.set (List.set σ i none) i (some v)) i none) = List.set σ i none
      rw [List.set_set, List.set_set]) (fun Y hY => (ht x v F1 M1 hx s1 s2 hr Y hY).1) (fun hp Y hY => (ht x v F1 M1 hx s1 s2 hr Y hY).2 hp)) hl hN (blkOk_by hb) hc hs
theorem ss_lcU {s : OS γ} [q : OMS s] {yv : γ} {vs : List V} {M0 : Hp} {d0 d : List Addr} {o : OR β} [mo : OM o] (j i : Nat) {y : Str} {py : Pos} {D : L2.Ends} {rest : List Stmt} {spos : Pos} {H : Hp} {elt it : Expr} {ifs : List Expr} {scope : Scope} {xs : List α} (pr : α → Bool) (f : α → β)
    (hi : EvI X (.Name n p) it σ F M r xs)
    (ht : ∀ x v F1 M1, x ∈ xs → Sub F F1 → Same M M1 → r F1 v x → ∀ Y, Blk X scope Y → EvTs Y ifs (((wipe σ [i])).set i (some v)) F1 M1 (pr x) ∧ (pr x = true → EvU Y elt ((wipe σ [i]).set i (some v)) F1 M1 o (f x)))
    (hl : xs.length < 1000000) (hN : X.N.Nodup) (h : SH M0 d0 s d F M H vs yv)
    (k : ∀ F2 M2 H2 v d2, Same F F2 → SH M0 d0 (oC (oL o) s) d2 F2 M2 H2 (v :: vs) ((xs.filter pr).map f, yv) → WSs X rest D (σ.set j (some v)) H2)
    (hy : X.N[j]? = some y := by rfl) (hyl : X.env.scope.names.lookup y = some .local := by rfl) (hsw : swapsWith (.ListComp elt [⟨.Name n p, it, ifs, 0⟩] scope pos) (some (.Name y py)) spos.line X.env = pure true := by exact sw_true rfl rfl rfl (by decide +kernel))
    (hb : blkC X.N X.env.scope scope [(n, i)] = true := by decide +kernel) (hc : X.calm = true := by rfl)
    (hg : ∀ (s : Shared) (H : Hp) (C : Addr) (cl : List (Str × Addr)) (fp : List Addr), PG (X.blk s H scope (compEnvC scope cl C X.env) fp) (.Name n p) (gName i) := by exact fun _ _ _ _ _ => pg_name (by assumption) rfl (Or.inl rfl))
    (hs : ∀ x, foldedSetIterable it X.env x = pure x := by intro _; rfl) :
    WSs X (.Assign [.Name y py] (.ListComp elt [⟨.Name n p, it, ifs, 0⟩] scope pos) spos :: rest) D σ H :=
  ss_lcU_core j [(n, i)] (g := gName i) pr f hi hg (fun x v F1 M1 H1 hx s1 s2 w hr R k => k _ (by
      show (List.set (List.set (List.set σ i none) i (some v)) i none) = List.set σ i none
      rw [List.set_set, List.set_set]) (fun Y hY => (ht x v F1 M1 hx s1 s2 hr Y hY).1) (fun hp Y hY => (ht x v F1 M1 hx s1 s2 hr Y hY).2 hp)) hl hN (blkOk_by hb) h k hy hyl hsw hc hs
theorem SH.lcT {s : OS γ} {y : γ} {v : V} {vs : List V} {M0 H : Hp} {d0 d : List Addr} {o : OR β} {xs : List α} {f : α → β} (h : SH M0 d0 (oC (oL o) s) d F M H (v :: vs) ((xs.filter fun _ => true).map f, y)) : SH M0 d0 (oC (oL o) s) d F M H (v :: vs) (xs.map f, y) := by
  have e : xs.filter (fun _ => true) = xs := by simp
  rw [e] at h; exact h
theorem EvU.lcT {o : OR β} {xs : List α} {f : α → β} (h : EvU X e σ F M (oL o) ((xs.filter fun _ => true).map f)) : EvU X e σ F M (oL o) (xs.map f) := by
  have e : xs.filter (fun _ => true) = xs := by simp
  rw [e] at h; exact h
end
end Y

namespace Q
open PySem PySem.Spec PyProof.Rows L2 Y
noncomputable def m_look_at (number : Int) (least : Int) (greatest : Int) : Rs Unit :=
  if ((decide (number < least)) || (decide (greatest < number))) = true then
  (.ex .noPart ())
  else
  (.ok ())
noncomputable def m_Part_cells (self : PT) : Rs Int :=
  .ok self.m.cells
noncomputable def m_Part_leaves (self : PT) : Rs Int :=
  .ok self.m.leaves
noncomputable def m_Part_size (self : PT) : Rs Int :=
  .ok self.m.size
noncomputable def m_Part_depth (self : PT) : Rs Int :=
  .ok self.m.depth
noncomputable def m_Part_lowest (self : PT) : Rs (Option Int) :=
  .ok self.m.low
noncomputable def m_Part_highest (self : PT) : Rs (Option Int) :=
  .ok self.m.high
noncomputable def m_Part_init (inner : (List PT)) (long : Int) (written : Int) : Rs Meas :=
  req ((inner.length < 1000000)) <|
  bnd (((1 : Int) + (inner.map (fun (part_c1 : PT) => part_c1.m.size)).sum)) fun (held1 : Int) =>
  req ((inner.length < 1000000)) <|
  bnd (((1 : Int) + (mxD (0 : Int) (inner.map (fun (part_c2 : PT) => part_c2.m.depth))))) fun (deep1 : Int) =>
  req ((inner.length < 1000000)) <|
  bnd ((mnO ((inner.filter (fun (part_c3 : PT) => (!Option.isNone part_c3.m.low))).map (fun (part_c3 : PT) => (oG part_c3.m.low))))) fun (low1 : (Option Int)) =>
  req ((∀ (part_c4 : PT), part_c4 ∈ inner → ((!Option.isNone part_c4.m.low) = true → (part_c4.m.high.isSome = true))) ∧ (inner.length < 1000000)) <|
  bnd ((mxO ((inner.filter (fun (part_c4 : PT) => (!Option.isNone part_c4.m.low))).map (fun (part_c4 : PT) => (oG part_c4.m.high))))) fun (high1 : (Option Int)) =>
  cal ((m_look_at long (1 : Int) (2000 : Int))) (fun (look_at1 : Unit) =>
  cal ((m_look_at written (1 : Int) (900 : Int))) (fun (look_at2 : Unit) =>
  cal ((m_look_at held1 (1 : Int) (1500 : Int))) (fun (look_at3 : Unit) =>
  cal ((m_look_at deep1 (1 : Int) (12 : Int))) (fun (look_at4 : Unit) =>
  .ok (⟨long, written, held1, deep1, low1, high1⟩ : Meas)) (fun ee4 _ =>
  .ex ee4 ())) (fun ee3 _ =>
  .ex ee3 ())) (fun ee2 _ =>
  .ex ee2 ())) (fun ee1 _ =>
  .ex ee1 ())
noncomputable def m_Tone_init (pitch : Int) (cells : Int) : Rs PT :=
  cal ((m_look_at pitch (0 : Int) (127 : Int))) (fun (look_at1 : Unit) =>
  cal (m_Part_init ([] : List PT) cells (1 : Int)) (fun (me_ : Meas) =>
  bnd ((some pitch)) fun (low1 : (Option Int)) =>
  bnd ((some pitch)) fun (high1 : (Option Int)) =>
  .ok (PT.mk .tone pitch ([] : List PT) ⟨me_.cells, me_.leaves, me_.size, me_.depth, low1, high1⟩)) (fun ee2 _ =>
  .ex ee2 ())) (fun ee1 _ =>
  .ex ee1 ())
noncomputable def m_Rest_init (cells : Int) : Rs PT :=
  cal (m_Part_init ([] : List PT) cells (1 : Int)) (fun (me_ : Meas) =>
  .ok (PT.mk .rest 0 ([] : List PT) ⟨me_.cells, me_.leaves, me_.size, me_.depth, me_.low, me_.high⟩)) (fun ee1 _ =>
  .ex ee1 ())
noncomputable def m_Row_init (parts : (List PT)) : Rs PT :=
  req ((parts.length < 1000000)) <|
  cal (m_Part_init parts ((parts.map (fun (part_c1 : PT) => part_c1.m.cells)).sum) ((parts.map (fun (part_c2 : PT) => part_c2.m.leaves)).sum)) (fun (me_ : Meas) =>
  .ok (PT.mk .row 0 parts ⟨me_.cells, me_.leaves, me_.size, me_.depth, me_.low, me_.high⟩)) (fun ee1 _ =>
  .ex ee1 ())
noncomputable def m_Beside_init (parts : (List PT)) : Rs PT :=
  if (decide ((parts.length : Int) < (2 : Int))) = true then
  (.ex .noPart ())
  else
  (req ((parts.length < 1000000) ∧ (0 < (parts.map (fun (part_c2 : PT) => part_c2.m.cells)).length)) <|
  bnd ((mxD 0 (parts.map (fun (part_c2 : PT) => part_c2.m.cells)))) fun (longest1 : Int) =>
  req ((parts.length < 1000000)) <|
  cal (m_Part_init parts longest1 ((parts.map (fun (part_c3 : PT) => part_c3.m.leaves)).sum)) (fun (me_ : Meas) =>
  .ok (PT.mk .beside 0 parts ⟨me_.cells, me_.leaves, me_.size, me_.depth, me_.low, me_.high⟩)) (fun ee1 _ =>
  .ex ee1 ()))
noncomputable def b_Tone_words (W : PT → Rs (List Str)) (self : PT) : Rs (List Str) :=
  req ((self.k = .tone) ∧ (self.n.natAbs.log2 < 1920) ∧ ((numT self.n).length + ("." : Str).length ≤ 1000000) ∧ (self.m.cells.natAbs.log2 < 1920) ∧ (((numT self.n) ++ ("." : Str)).length + (numT self.m.cells).length ≤ 1000000)) <|
  .ok [(((numT self.n) ++ ("." : Str)) ++ (numT self.m.cells))]
noncomputable def b_Rest_words (W : PT → Rs (List Str)) (self : PT) : Rs (List Str) :=
  req ((self.m.cells.natAbs.log2 < 1920) ∧ (("r." : Str).length + (numT self.m.cells).length ≤ 1000000)) <|
  .ok [(("r." : Str) ++ (numT self.m.cells))]
noncomputable def b_Row_words (W : PT → Rs (List Str)) (self : PT) : Rs (List Str) :=
  bnd ([("(" : Str)]) fun (found1 : (List Str)) =>
  forC1 (fun (part1 : PT) (found2 : (List Str)) kc1 =>
  (req (((W part1).isOk) ∧ (found2.length + ((W part1).get).length ≤ 1000000)) <|
  bnd ((found2 ++ (W part1).get)) fun (found3 : (List Str)) =>
  kc1 found3)) (fun (found2 : (List Str)) =>
  req ((found2.length < 1000000)) <|
  bnd ((found2 ++ [(")" : Str)])) fun (found4 : (List Str)) =>
  .ok found4) self.inner found1
noncomputable def b_Beside_words (W : PT → Rs (List Str)) (self : PT) : Rs (List Str) :=
  bnd (([] : List Str)) fun (found1 : (List Str)) =>
  forC1 (fun (part1 : PT) (found2 : (List Str)) kc1 =>
  (req ((found2.length < 1000000)) <|
  bnd ((found2 ++ [("|" : Str)])) fun (found3 : (List Str)) =>
  req (((W part1).isOk) ∧ (found3.length + ((W part1).get).length ≤ 1000000)) <|
  bnd ((found3 ++ (W part1).get)) fun (found4 : (List Str)) =>
  kc1 found4)) (fun (found2 : (List Str)) =>
  req ((([("[" : Str)]).length + (cutL found2 (some (1 : Int)) none).length ≤ 1000000) ∧ (([("[" : Str)] ++ (cutL found2 (some (1 : Int)) none)).length + ([("]" : Str)]).length ≤ 1000000)) <|
  .ok (([("[" : Str)] ++ (cutL found2 (some (1 : Int)) none)) ++ [("]" : Str)])) self.inner found1
noncomputable def m_words : Nat → PT → Rs (List Str)
  | 0 => fun _ => .bad
  | fu + 1 => fun self => match self.k with
    | .tone => b_Tone_words (m_words fu) self
    | .rest => b_Rest_words (m_words fu) self
    | .row => b_Row_words (m_words fu) self
    | .beside => b_Beside_words (m_words fu) self
    | _ => .bad
noncomputable def m_cell_at (script : (List Int)) (k : Int) : Rs Int :=
  if (decide (k < (script.length : Int))) = true then
  (req ((-(script.length : Int) ≤ k ∧ k < script.length)) <|
  .ok (gI script k))
  else
  (.ok (0 : Int))
noncomputable def m_whole (found : Int) : Rs Bool :=
  .ok (true && (!false))
noncomputable def m_kinds (_ : Unit) : Rs Bool :=
  bnd ([false, false, false, false]) fun (some_1 : (List Bool)) =>
  req ((some_1.length + [false, false, false].length ≤ 1000000)) <|
  bnd ((some_1 ++ [false, false, false])) fun (some_2 : (List Bool)) =>
  .ok (true && (true && (!decide (true ∈ some_2))))
noncomputable def m_are (part : PT) (due : (Int × Int × Int × Int × (Option Int) × (Option Int) × (List Str))) : Rs Bool :=
  bnd ([part.m.cells, part.m.leaves, part.m.size, part.m.depth]) fun (found1 : (List Int)) =>
  bnd ([part.m.low, part.m.high]) fun (ends_here1 : (List (Option Int))) =>
  req ((ends_here1.length < 1000000) ∧ (found1.length + ((ends_here1.filter (fun (end__c1 : (Option Int)) => (!Option.isNone end__c1))).map (fun (end__c1 : (Option Int)) => (oG end__c1))).length ≤ 1000000)) <|
  forC0 (fun (number1 : Int) kc1 =>
  (req (((m_whole number1).isOk)) <|
  if (!(m_whole number1).get) = true then
  (.ok false)
  else
  (kc1))) (req ((((m_words 13) part).isOk)) <|
  bnd (((m_words 13) part).get) fun (words1 : (List Str)) =>
  if (!true) = true then
  (.ok false)
  else
  (forC0 (fun (word1 : Str) kc2 =>
  (if (!true) = true then
  (.ok false)
  else
  (kc2))) (req (((found1.map some).length + ends_here1.length ≤ 1000000)) <|
  .ok ((decide (((found1.map some) ++ ends_here1) = [some due.1, some due.2.1, some due.2.2.1, some due.2.2.2.1, due.2.2.2.2.1, due.2.2.2.2.2.1])) && (decide (words1 = due.2.2.2.2.2.2)))) words1)) (found1 ++ ((ends_here1.filter (fun (end__c1 : (Option Int)) => (!Option.isNone end__c1))).map (fun (end__c1 : (Option Int)) => (oG end__c1))))
noncomputable def m_leaf (cell : Int) : Rs (Int × Int × Int × Int × (Option Int) × (Option Int) × (List Str)) :=
  bnd ((cell / (4 : Int))) fun (number1 : Int) =>
  bnd ((number1 % (128 : Int))) fun (pitch1 : Int) =>
  bnd (((1 : Int) + ((number1 / (3 : Int)) % (20 : Int)))) fun (cells1 : Int) =>
  if (decide ((cell % (4 : Int)) = (0 : Int))) = true then
  (req ((cells1.natAbs.log2 < 1920) ∧ (("r." : Str).length + (numT cells1).length ≤ 1000000)) <|
  .ok (cells1, (1 : Int), (1 : Int), (1 : Int), (none : (Option Int)), (none : (Option Int)), [(("r." : Str) ++ (numT cells1))]))
  else
  (req ((pitch1.natAbs.log2 < 1920) ∧ ((numT pitch1).length + ("." : Str).length ≤ 1000000) ∧ (cells1.natAbs.log2 < 1920) ∧ (((numT pitch1) ++ ("." : Str)).length + (numT cells1).length ≤ 1000000)) <|
  .ok (cells1, (1 : Int), (1 : Int), (1 : Int), (some pitch1), (some pitch1), [(((numT pitch1) ++ ("." : Str)) ++ (numT cells1))]))
noncomputable def m_made_leaf (leaf_here : (Int × Int × Int × Int × (Option Int) × (Option Int) × (List Str))) : Rs PT :=
  if (Option.isNone leaf_here.2.2.2.2.1) = true then
  (req (((m_Rest_init leaf_here.1).isOk)) <|
  .ok ((m_Rest_init leaf_here.1).get))
  else
  (req (((m_Tone_init (oG leaf_here.2.2.2.2.1) leaf_here.1).isOk)) <|
  .ok ((m_Tone_init (oG leaf_here.2.2.2.2.1) leaf_here.1).get))
noncomputable def m_ends (some_ : (List (Int × Int × Int × Int × (Option Int) × (Option Int) × (List Str)))) : Rs ((Option Int) × (Option Int)) :=
  req ((some_.length < 1000000)) <|
  bnd (((some_.filter (fun (due_c1 : (Int × Int × Int × Int × (Option Int) × (Option Int) × (List Str))) => (!Option.isNone due_c1.2.2.2.2.1))).map (fun (due_c1 : (Int × Int × Int × Int × (Option Int) × (Option Int) × (List Str))) => (oG due_c1.2.2.2.2.1)))) fun (lows1 : (List Int)) =>
  req ((some_.length < 1000000)) <|
  bnd (((some_.filter (fun (due_c2 : (Int × Int × Int × Int × (Option Int) × (Option Int) × (List Str))) => (!Option.isNone due_c2.2.2.2.2.2.1))).map (fun (due_c2 : (Int × Int × Int × Int × (Option Int) × (Option Int) × (List Str))) => (oG due_c2.2.2.2.2.2.1)))) fun (highs1 : (List Int)) =>
  .ok ((mnO lows1), (mxO highs1))
noncomputable def m_row (some_ : (List (Int × Int × Int × Int × (Option Int) × (Option Int) × (List Str)))) : Rs (Int × Int × Int × Int × (Option Int) × (Option Int) × (List Str)) :=
  bnd ([("(" : Str)]) fun (words1 : (List Str)) =>
  forC1 (fun (due1 : (Int × Int × Int × Int × (Option Int) × (Option Int) × (List Str))) (words2 : (List Str)) kc1 =>
  (req ((words2.length + due1.2.2.2.2.2.2.length ≤ 1000000)) <|
  bnd ((words2 ++ due1.2.2.2.2.2.2)) fun (words3 : (List Str)) =>
  kc1 words3)) (fun (words2 : (List Str)) =>
  req ((some_.length < 1000000)) <|
  bnd ((some_.map (fun (due_c1 : (Int × Int × Int × Int × (Option Int) × (Option Int) × (List Str))) => due_c1.1)).sum) fun (long1 : Int) =>
  req ((some_.length < 1000000)) <|
  bnd ((some_.map (fun (due_c2 : (Int × Int × Int × Int × (Option Int) × (Option Int) × (List Str))) => due_c2.2.1)).sum) fun (leaves1 : Int) =>
  req ((some_.length < 1000000)) <|
  bnd (((1 : Int) + (some_.map (fun (due_c3 : (Int × Int × Int × Int × (Option Int) × (Option Int) × (List Str))) => due_c3.2.2.1)).sum)) fun (size1 : Int) =>
  req ((some_.length < 1000000) ∧ (0 < (some_.map (fun (due_c4 : (Int × Int × Int × Int × (Option Int) × (Option Int) × (List Str))) => due_c4.2.2.2.1)).length) ∧ ((m_ends some_).isOk) ∧ (words2.length + [(")" : Str)].length ≤ 1000000)) <|
  .ok ((long1, leaves1, size1, ((1 : Int) + (mxD 0 (some_.map (fun (due_c4 : (Int × Int × Int × Int × (Option Int) × (Option Int) × (List Str))) => due_c4.2.2.2.1)))), ((m_ends some_).get).1, ((m_ends some_).get).2, ((words2 ++ [(")" : Str)]))))) some_ words1
noncomputable def m_beside (some_ : (List (Int × Int × Int × Int × (Option Int) × (Option Int) × (List Str)))) : Rs (Int × Int × Int × Int × (Option Int) × (Option Int) × (List Str)) :=
  bnd (([] : List Str)) fun (words1 : (List Str)) =>
  forC1 (fun (due1 : (Int × Int × Int × Int × (Option Int) × (Option Int) × (List Str))) (words2 : (List Str)) kc1 =>
  (req ((words2.length + [("|" : Str)].length ≤ 1000000) ∧ ((words2 ++ [("|" : Str)]).length + due1.2.2.2.2.2.2.length ≤ 1000000)) <|
  bnd (((words2 ++ [("|" : Str)]) ++ due1.2.2.2.2.2.2)) fun (words3 : (List Str)) =>
  kc1 words3)) (fun (words2 : (List Str)) =>
  req ((some_.length < 1000000) ∧ (0 < (some_.map (fun (due_c1 : (Int × Int × Int × Int × (Option Int) × (Option Int) × (List Str))) => due_c1.1)).length)) <|
  bnd ((mxD 0 (some_.map (fun (due_c1 : (Int × Int × Int × Int × (Option Int) × (Option Int) × (List Str))) => due_c1.1)))) fun (long1 : Int) =>
  req ((some_.length < 1000000)) <|
  bnd ((some_.map (fun (due_c2 : (Int × Int × Int × Int × (Option Int) × (Option Int) × (List Str))) => due_c2.2.1)).sum) fun (leaves1 : Int) =>
  req ((some_.length < 1000000)) <|
  bnd (((1 : Int) + (some_.map (fun (due_c3 : (Int × Int × Int × Int × (Option Int) × (Option Int) × (List Str))) => due_c3.2.2.1)).sum)) fun (size1 : Int) =>
  req ((some_.length < 1000000) ∧ (0 < (some_.map (fun (due_c4 : (Int × Int × Int × Int × (Option Int) × (Option Int) × (List Str))) => due_c4.2.2.2.1)).length) ∧ ((m_ends some_).isOk) ∧ (([("[" : Str)]).length + (cutL words2 (some (1 : Int)) none).length ≤ 1000000) ∧ (([("[" : Str)] ++ (cutL words2 (some (1 : Int)) none)).length + ([("]" : Str)]).length ≤ 1000000)) <|
  .ok (long1, leaves1, size1, ((1 : Int) + (mxD 0 (some_.map (fun (due_c4 : (Int × Int × Int × Int × (Option Int) × (Option Int) × (List Str))) => due_c4.2.2.2.1)))), ((m_ends some_).get).1, ((m_ends some_).get).2, (([("[" : Str)] ++ (cutL words2 (some (1 : Int)) none)) ++ [("]" : Str)]))) some_ words1
noncomputable def m_good (parts : (List PT)) (dues : (List (Int × Int × Int × Int × (Option Int) × (Option Int) × (List Str)))) : Rs (Option PT) :=
  req (((m_Beside_init parts).isOk)) <|
  bnd ((m_Beside_init parts).get) fun (found1 : PT) =>
  req (((m_beside dues).isOk)) <|
  bnd ((m_beside dues).get) fun (due1 : (Int × Int × Int × Int × (Option Int) × (Option Int) × (List Str))) =>
  req (((m_are found1 due1).isOk)) <|
  if ((!(m_are found1 due1).get) || false) = true then
  (.ok (none : (Option PT)))
  else
  (req ((((m_words 13) found1).isOk)) <|
  bnd (([] : (List PT))) fun (handed1 : (List PT)) =>
  req (((m_are found1 due1).isOk)) <|
  if (!(m_are found1 due1).get) = true then
  (.ok (none : (Option PT)))
  else
  (.ok (some found1)))
noncomputable def m_refused (parts : (List PT)) : Rs Bool :=
  cal ((m_Beside_init parts)) (fun (Beside_init1 : PT) =>
  .ok false) (fun ee1 _ =>
  match ee1 with
  | .noPart => (
  req (((m_kinds ()).isOk)) <|
  bnd ((m_kinds ()).get) fun (refused_here1 : Bool) =>
  .ok refused_here1)
  | _ => .bad)
noncomputable def m_law (script : (List Int)) : Rs Bool :=
  req (((m_cell_at script (0 : Int)).isOk)) <|
  bnd (((2 : Int) + ((m_cell_at script (0 : Int)).get % (5 : Int)))) fun (many1 : Int) =>
  req ((-(2 ^ 62) ≤ many1 ∧ many1 < 2 ^ 62) ∧ (∀ (k_c1 : Int), k_c1 ∈ (rng 0 many1.toNat) → (CMul (4 : Int) k_c1) ∧ ((m_leaf (((4 : Int) * k_c1) + (1 : Int))).isOk)) ∧ ((rng 0 many1.toNat).length < 1000000)) <|
  bnd (((rng 0 many1.toNat).map (fun (k_c1 : Int) => [(m_leaf (((4 : Int) * k_c1) + (1 : Int))).get]))) fun (rows1 : (List (List (Int × Int × Int × Int × (Option Int) × (Option Int) × (List Str))))) =>
  forC1 (fun (cell1 : Int) (rows2 : (List (List (Int × Int × Int × Int × (Option Int) × (Option Int) × (List Str))))) kc1 =>
  (req ((0 < many1) ∧ (-(rows2.length : Int) ≤ ((cell1 / (4 : Int)) % many1) ∧ ((cell1 / (4 : Int)) % many1) < rows2.length)) <|
  req (((m_leaf (cell1 / (7 : Int))).isOk) ∧ ((gI rows2 ((cell1 / (4 : Int)) % many1)).length < 1000000)) <|
  bnd ((setI rows2 ((cell1 / (4 : Int)) % many1) ((gI rows2 ((cell1 / (4 : Int)) % many1)) ++ [(m_leaf (cell1 / (7 : Int))).get]))) fun (rows3 : (List (List (Int × Int × Int × Int × (Option Int) × (Option Int) × (List Str))))) =>
  kc1 rows3)) (fun (rows2 : (List (List (Int × Int × Int × Int × (Option Int) × (Option Int) × (List Str))))) =>
  req ((∀ (row_here_c2 : (List (Int × Int × Int × Int × (Option Int) × (Option Int) × (List Str)))), row_here_c2 ∈ rows2 → (∀ (leaf_here_c3 : (Int × Int × Int × Int × (Option Int) × (Option Int) × (List Str))), leaf_here_c3 ∈ row_here_c2 → ((m_made_leaf leaf_here_c3).isOk)) ∧ (row_here_c2.length < 1000000) ∧ ((m_Row_init (row_here_c2.map (fun (leaf_here_c3 : (Int × Int × Int × Int × (Option Int) × (Option Int) × (List Str))) => (m_made_leaf leaf_here_c3).get))).isOk)) ∧ (rows2.length < 1000000)) <|
  bnd ((rows2.map (fun (row_here_c2 : (List (Int × Int × Int × Int × (Option Int) × (Option Int) × (List Str)))) => (m_Row_init (row_here_c2.map (fun (leaf_here_c3 : (Int × Int × Int × Int × (Option Int) × (Option Int) × (List Str))) => (m_made_leaf leaf_here_c3).get))).get))) fun (parts1 : (List PT)) =>
  req ((∀ (row_here_c4 : (List (Int × Int × Int × Int × (Option Int) × (Option Int) × (List Str)))), row_here_c4 ∈ rows2 → ((m_row row_here_c4).isOk)) ∧ (rows2.length < 1000000)) <|
  bnd ((rows2.map (fun (row_here_c4 : (List (Int × Int × Int × Int × (Option Int) × (Option Int) × (List Str)))) => (m_row row_here_c4).get))) fun (dues1 : (List (Int × Int × Int × Int × (Option Int) × (Option Int) × (List Str)))) =>
  req ((-(rows2.length : Int) ≤ (0 : Int) ∧ (0 : Int) < rows2.length) ∧ (-((gI rows2 (0 : Int)).length : Int) ≤ (-(1 : Int)) ∧ (-(1 : Int)) < (gI rows2 (0 : Int)).length) ∧ ((m_made_leaf (gI (gI rows2 (0 : Int)) (-(1 : Int)))).isOk) ∧ (-(parts1.length : Int) ≤ (0 : Int) ∧ (0 : Int) < parts1.length)) <|
  bnd ((setI parts1 (0 : Int) ((m_made_leaf (gI (gI rows2 (0 : Int)) (-(1 : Int)))).get))) fun (parts2 : (List PT)) =>
  req ((-(rows2.length : Int) ≤ (0 : Int) ∧ (0 : Int) < rows2.length) ∧ (-((gI rows2 (0 : Int)).length : Int) ≤ (-(1 : Int)) ∧ (-(1 : Int)) < (gI rows2 (0 : Int)).length) ∧ (-(dues1.length : Int) ≤ (0 : Int) ∧ (0 : Int) < dues1.length)) <|
  bnd ((setI dues1 (0 : Int) (gI (gI rows2 (0 : Int)) (-(1 : Int))))) fun (dues2 : (List (Int × Int × Int × Int × (Option Int) × (Option Int) × (List Str)))) =>
  req (((m_good parts2 dues2).isOk)) <|
  bnd ((m_good parts2 dues2).get) fun (found1 : (Option PT)) =>
  if (Option.isNone found1) = true then
  (.ok false)
  else
  (req (((m_beside dues2).isOk)) <|
  bnd ((m_beside dues2).get) fun (due1 : (Int × Int × Int × Int × (Option Int) × (Option Int) × (List Str))) =>
  req ((-(parts2.length : Int) ≤ (1 : Int) ∧ (1 : Int) < parts2.length) ∧ (-(dues2.length : Int) ≤ (1 : Int) ∧ (1 : Int) < dues2.length) ∧ ((m_good [(oG found1), (gI parts2 (1 : Int)), (oG found1)] [due1, (gI dues2 (1 : Int)), due1]).isOk)) <|
  bnd ((m_good [(oG found1), (gI parts2 (1 : Int)), (oG found1)] [due1, (gI dues2 (1 : Int)), due1]).get) fun (again1 : (Option PT)) =>
  req (((Option.isNone again1) = false → ((m_refused ([] : List PT)).isOk) ∧ ((!(m_refused ([] : List PT)).get) = false → ((m_refused [(oG found1)]).isOk) ∧ ((!(m_refused [(oG found1)]).get) = false → ((m_refused (cutL parts2 none (some (1 : Int)))).isOk))))) <|
  if ((Option.isNone again1) || ((!(m_refused ([] : List PT)).get) || ((!(m_refused [(oG found1)]).get) || (!(m_refused (cutL parts2 none (some (1 : Int)))).get)))) = true then
  (.ok false)
  else
  (req (((m_are (oG found1) due1).isOk)) <|
  .ok ((m_are (oG found1) due1).get)))) (cutL script none (some (63 : Int))) rows1

/-! the ways meet: what holds of all that is handed on -/
section
variable {δ ρ α β γ : Type} {P : ρ → Prop} {X : Exc → δ → Prop}
theorem jnP1 {K : α → Res δ ρ} {b : (α → Res δ ρ) → Res δ ρ} (A : α → Prop) (h : ∀ x, A x → Y.Ends (K x) P X) (hb : ∀ k : α → Res δ ρ, (∀ x, A x → Y.Ends (k x) P X) → Y.Ends (b k) P X) : Y.Ends (jn K b) P X := hb K h
theorem jnP2 {K : α → β → Res δ ρ} {b : (α → β → Res δ ρ) → Res δ ρ} (A : α → β → Prop) (h : ∀ x y, A x y → Y.Ends (K x y) P X) (hb : ∀ k : α → β → Res δ ρ, (∀ x y, A x y → Y.Ends (k x y) P X) → Y.Ends (b k) P X) : Y.Ends (jn K b) P X := hb K h
theorem jnP3 {K : α → β → γ → Res δ ρ} {b : (α → β → γ → Res δ ρ) → Res δ ρ} (A : α → β → γ → Prop) (h : ∀ x y z, A x y z → Y.Ends (K x y z) P X) (hb : ∀ k : α → β → γ → Res δ ρ, (∀ x y z, A x y z → Y.Ends (k x y z) P X) → Y.Ends (b k) P X) : Y.Ends (jn K b) P X := hb K h
end

def cellAt (xs : List Int) (k : Int) : Int := if (decide (k < (xs.length : Int))) = true then gI xs k else 0

def mixed (c k : Int) : Int := (c % 2147483647 + 69621 + 48271 * k) * (c % 2147483647 + 69621 + 48271 * k) % 2147483629
theorem mixed_ge {c k : Int} : 0 ≤ mixed c k := Int.emod_nonneg _ (by decide)
theorem mixed_lt {c k : Int} : mixed c k < 2147483629 := Int.emod_lt_of_pos _ (by decide)

theorem filter_true {α : Type} (xs : List α) : xs.filter (fun _ => true) = xs := by simp
theorem pw_rng {lo : Int} {n : Nat} : (rng lo n).Pairwise (· < ·) := by
  unfold rng
  rw [List.pairwise_map]
  exact List.pairwise_lt_range.imp fun h => by omega
theorem mem_rng {lo : Int} {n : Nat} {k : Int} : k ∈ rng lo n ↔ lo ≤ k ∧ k < lo + n := by
  refine ⟨rng_mem, fun h => ?_⟩
  unfold rng
  exact List.mem_map.mpr ⟨(k - lo).toNat, by simp; omega, by omega⟩

theorem lk_isSome {κ α : Type} [DecidableEq κ] {k : κ} {kvs : List (κ × α)} : (lk k kvs).isSome = decide (k ∈ kvs.map (·.1)) := by
  by_cases h : k ∈ kvs.map (·.1)
  · rw [decide_eq_true h]
    cases q : lk k kvs with
    | none => exact absurd h (lk_none.mp q)
    | some x => rfl
  · rw [decide_eq_false h, lk_none.mpr h]; rfl
theorem lk_there {κ α : Type} [DecidableEq κ] {k : κ} {kvs : List (κ × α)} (h : k ∈ kvs.map (·.1)) : (lk k kvs).isSome = true := by rw [lk_isSome]; exact decide_eq_true h
/-- a dict's keys are these -/
def KeysOf {κ α : Type} (kvs : List (κ × α)) (xs : List κ) : Prop := ∀ q, q ∈ kvs.map (·.1) ↔ q ∈ xs
theorem take_at {α : Type} {xs : List α} {i : Nat} {x : α} (h : xs[i]? = some x) : xs.take (i + 1) = xs.take i ++ [x] := by rw [List.take_add_one, h]; rfl
theorem KeysOf.nil {κ α : Type} : KeysOf ([] : List (κ × α)) [] := fun q => Iff.rfl
theorem KeysOf.put {κ α : Type} [DecidableEq κ] {kvs : List (κ × α)} {xs : List κ} {x : κ} {y : α} (h : KeysOf kvs xs) : KeysOf (pt x y kvs) (xs ++ [x]) := fun q => by
  rw [pt_keys, h q, List.mem_append, List.mem_singleton]
  exact or_comm
theorem KeysOf.lk {κ α : Type} [DecidableEq κ] {kvs : List (κ × α)} {xs : List κ} (h : KeysOf kvs xs) (k : κ) : (Y.lk k kvs).isSome = decide (k ∈ xs) := by
  rw [lk_isSome]
  by_cases q : k ∈ xs
  · rw [decide_eq_true q, decide_eq_true ((h k).mpr q)]
  · rw [decide_eq_false q, decide_eq_false fun z => q ((h k).mp z)]
theorem KeysOf.at {κ α : Type} [DecidableEq κ] {kvs : List (κ × α)} {xs : List κ} {x : κ} {y : α} {i : Nat} (h : KeysOf kvs (xs.take i) ∧ kvs.length ≤ i) (hx : xs[i]? = some x) : KeysOf (pt x y kvs) (xs.take (i + 1)) ∧ (pt x y kvs).length ≤ i + 1 := by
  refine ⟨?_, Nat.le_trans (pt_len x y kvs) (Nat.succ_le_succ h.2)⟩
  rw [take_at hx]; exact h.1.put

theorem KeysOf.fat {κ α γ : Type} [DecidableEq κ] {kvs : List (κ × α)} {xs : List γ} {f : γ → Bool} {g : γ → κ} {i : Nat} {x : γ} {y : α} (h : KeysOf kvs (((xs.take i).filter f).map g)) (hx : xs[i]? = some x) (hf : f x = true) : KeysOf (pt (g x) y kvs) (((xs.take (i + 1)).filter f).map g) := by
  rw [take_at hx, List.filter_append, List.map_append, List.filter_cons, if_pos hf]
  exact h.put
theorem KeysOf.fno {κ α γ : Type} {kvs : List (κ × α)} {xs : List γ} {f : γ → Bool} {g : γ → κ} {i : Nat} {x : γ} (h : KeysOf kvs (((xs.take i).filter f).map g)) (hx : xs[i]? = some x) (hf : f x = false) : KeysOf kvs (((xs.take (i + 1)).filter f).map g) := by
  rw [take_at hx, List.filter_append, List.map_append, List.filter_cons, if_neg (by rw [hf]; exact Bool.false_ne_true)]
  simpa using h
theorem dR.nd {α : Type} {r : Rep α} {F : Hp} {v : V} {kvs : List (Int × α)} (h : dR r F v kvs) : (kvs.map (·.1)).Nodup := let ⟨_, _, _, _, _, _, h⟩ := h; h.2

theorem drop_at {α : Type} {xs : List α} {i : Nat} {x : α} (h : xs[i]? = some x) : xs.drop i = x :: xs.drop (i + 1) := by
  obtain ⟨hi, rfl⟩ := List.getElem?_eq_some_iff.mp h
  exact List.drop_eq_getElem_cons hi

theorem gI_hd {α : Type} [Inhabited α] {x : α} {t : List α} : gI (x :: t) 0 = x := by
  have z := gI_nat (xs := x :: t) (i := 0) (by omega) (by rw [List.length_cons]; omega)
  exact (Option.some.inj z).symm

theorem cell_at_is {s : List Int} {k : Int} (h : 0 ≤ k) : m_cell_at s k = .ok (cellAt s k) := by
  unfold m_cell_at cellAt
  split
  · rename_i c
    have := of_decide_eq_true c
    exact Gives.eq (Ends.req ⟨by omega, this⟩ (Ends.ok_ rfl))
  · rfl

theorem cut_to {α : Type} {xs : List α} {n : Int} (h : 0 ≤ n) : cutL xs none (some n) = xs.take n.toNat := by
  unfold cutL
  obtain ⟨k, rfl⟩ : ∃ k : Nat, n = (k : Int) := ⟨n.toNat, by omega⟩
  rw [HT.sIx_none, HT.sIx_nat, List.drop_zero, Nat.sub_zero, List.take_eq_take_iff, Int.toNat_natCast]
  omega
theorem cut_from {α : Type} {xs : List α} {n : Int} (h : 0 ≤ n) : cutL xs (some n) none = xs.drop n.toNat := by
  unfold cutL
  rw [HT.sIx_none, show n = ((n.toNat : Nat) : Int) by omega, HT.sIx_nat]
  by_cases c : n.toNat ≤ xs.length
  · rw [Nat.min_eq_left c, List.take_of_length_le (by rw [List.length_drop]; omega)]; rfl
  · rw [Nat.min_eq_right (by omega), List.drop_length, List.take_nil]
    exact (List.drop_eq_nil_iff.mpr (by omega)).symm

/-! parts: what the classes make -/
theorem mnO_mem {xs : List Int} {a : Int} (h : mnO xs = some a) : a ∈ xs := by
  cases xs with
  | nil => cases h
  | cons x t => have z := mnD_mem (d := 0) (xs := x :: t) (by simp); cases h; exact z
theorem mxO_mem {xs : List Int} {a : Int} (h : mxO xs = some a) : a ∈ xs := by
  cases xs with
  | nil => cases h
  | cons x t => have z := mxD_mem (d := 0) (xs := x :: t) (by simp); cases h; exact z
theorem mxD_le {xs : List Int} {b : Int} (h0 : 0 ≤ b) (h : ∀ x ∈ xs, x ≤ b) : mxD 0 xs ≤ b := by
  by_cases e : xs = []
  · subst e; exact h0
  · exact h _ (mxD_mem e)
theorem mxD_ge0 {xs : List Int} (h : ∀ x ∈ xs, 0 ≤ x) : 0 ≤ mxD 0 xs := by
  by_cases e : xs = []
  · subst e; exact Int.le_refl _
  · exact h _ (mxD_mem e)
theorem sum_ge0 : ∀ {xs : List Int}, (∀ x ∈ xs, 0 ≤ x) → 0 ≤ xs.sum
  | [], _ => Int.le_refl _
  | x :: t, h => by
    have h1 := h x (by simp)
    have h2 := sum_ge0 (xs := t) fun y hy => h y (by simp [hy])
    rw [List.sum_cons]; omega
theorem sum_ge_mem : ∀ {xs : List Int} {y : Int}, (∀ x ∈ xs, 0 ≤ x) → y ∈ xs → y ≤ xs.sum
  | [], _, _, h => by cases h
  | x :: t, y, h, hy => by
    have h1 := h x (by simp)
    have h2 := sum_ge0 (xs := t) fun y hy => h y (by simp [hy])
    rw [List.sum_cons]
    rcases List.mem_cons.mp hy with e | hy
    · omega
    · have := sum_ge_mem (xs := t) (fun y hy => h y (by simp [hy])) hy; omega
def inLow (ts : List PT) : List Int := (ts.filter fun t => (!Option.isNone t.m.low)).map fun t => oG t.m.low
def inHigh (ts : List PT) : List Int := (ts.filter fun t => (!Option.isNone t.m.low)).map fun t => oG t.m.high
/-- the measures of what is made of ts -/
def partM (ts : List PT) (long written : Int) : Meas := ⟨long, written, 1 + (ts.map fun t => t.m.size).sum, 1 + mxD 0 (ts.map fun t => t.m.depth), mnO (inLow ts), mxO (inHigh ts)⟩
def within (n a b : Int) : Bool := !(decide (n < a) || decide (b < n))
theorem within_iff {n a b : Int} : within n a b = true ↔ a ≤ n ∧ n ≤ b := by
  unfold within
  rw [Bool.not_eq_true', Bool.or_eq_false_iff, decide_eq_false_iff_not, decide_eq_false_iff_not]
  omega
theorem look_is {n a b : Int} : m_look_at n a b = if within n a b = true then .ok () else .ex .noPart () := by
  unfold m_look_at within
  cases (decide (n < a) || decide (b < n)) <;> rfl
theorem look_ok {n a b : Int} (h : a ≤ n ∧ n ≤ b) : m_look_at n a b = .ok () := by rw [look_is, if_pos (within_iff.mpr h)]
theorem look_no {n a b : Int} (h : ¬(a ≤ n ∧ n ≤ b)) : m_look_at n a b = .ex .noPart () := by rw [look_is, if_neg fun z => h (within_iff.mp z)]
/-- low and high come together -/
def LH (t : PT) : Prop := t.m.low.isSome = true → t.m.high.isSome = true
theorem someG {α : Type} [Inhabited α] {x : Option α} (h : x.isSome = true) : x = some (oG x) := by cases x with
  | none => cases h
  | some a => rfl
theorem not_none {α : Type} {x : Option α} : (!Option.isNone x) = x.isSome := by cases x <;> rfl
def MeasOk (m : Meas) : Prop := (1 ≤ m.cells ∧ m.cells ≤ 2000) ∧ (1 ≤ m.leaves ∧ m.leaves ≤ 900) ∧ (1 ≤ m.size ∧ m.size ≤ 1500) ∧ (1 ≤ m.depth ∧ m.depth ≤ 12)
theorem part_is {ts : List PT} {long written : Int} (hl : ts.length < 1000000) (hh : ∀ t ∈ ts, LH t) : m_Part_init ts long written =
    if (within long 1 2000 && within written 1 900 && within (partM ts long written).size 1 1500 && within (partM ts long written).depth 1 12) = true then .ok (partM ts long written) else .ex .noPart () := by
  have h2 : (∀ t : PT, t ∈ ts → ((!Option.isNone t.m.low) = true → (t.m.high.isSome = true))) := fun t ht q => hh t ht (by rw [not_none] at q; exact q)
  unfold m_Part_init
  rw [req_pos hl]
  simp only [bnd, req_pos hl, req_pos (And.intro h2 hl), look_is]
  show _ = if (within long 1 2000 && within written 1 900 && within (1 + (ts.map fun t => t.m.size).sum) 1 1500 && within (1 + mxD 0 (ts.map fun t => t.m.depth)) 1 12) = true then _ else _
  cases within long 1 2000 with
  | false => rfl
  | true =>
    cases within written 1 900 with
    | false => rfl
    | true =>
      cases within (1 + (ts.map fun t => t.m.size).sum) 1 1500 with
      | false => rfl
      | true =>
        cases within (1 + mxD 0 (ts.map fun t => t.m.depth)) 1 12 with
        | false => rfl
        | true => rfl
theorem part_ok {ts : List PT} {long written : Int} (hl : ts.length < 1000000) (hh : ∀ t ∈ ts, LH t) (h : MeasOk (partM ts long written)) : m_Part_init ts long written = .ok (partM ts long written) := by
  rw [part_is hl hh, if_pos]
  obtain ⟨h1, h2, h3, h4⟩ := h
  rw [show within long 1 2000 = true from within_iff.mpr h1, show within written 1 900 = true from within_iff.mpr h2, within_iff.mpr h3, within_iff.mpr h4]; rfl
theorem part_no {ts : List PT} {long written : Int} (hl : ts.length < 1000000) (hh : ∀ t ∈ ts, LH t) (h : ¬MeasOk (partM ts long written)) : m_Part_init ts long written = .ex .noPart () := by
  rw [part_is hl hh, if_neg]
  intro z
  simp only [Bool.and_eq_true] at z
  obtain ⟨⟨⟨z1, z2⟩, z3⟩, z4⟩ := z
  exact h ⟨within_iff.mp z1, within_iff.mp z2, within_iff.mp z3, within_iff.mp z4⟩
def toneT (p c : Int) : PT := .mk .tone p [] ⟨c, 1, 1, 1, some p, some p⟩
def restT (c : Int) : PT := .mk .rest 0 [] ⟨c, 1, 1, 1, none, none⟩
def rowM (ts : List PT) : Meas := partM ts (ts.map fun t => t.m.cells).sum (ts.map fun t => t.m.leaves).sum
def rowT (ts : List PT) : PT := .mk .row 0 ts (rowM ts)
def besM (ts : List PT) : Meas := partM ts (mxD 0 (ts.map fun t => t.m.cells)) (ts.map fun t => t.m.leaves).sum
def besT (ts : List PT) : PT := .mk .beside 0 ts (besM ts)
def repM (n : Int) (t : PT) : Meas := partM [t] (n * t.m.cells) (n * t.m.leaves)
def repT (n : Int) (t : PT) : PT := .mk .rep n [t] (repM n t)
def strM (n : Int) (t : PT) : Meas := partM [t] (n * t.m.cells) t.m.leaves
def strT (n : Int) (t : PT) : PT := .mk .stretch n [t] (strM n t)
def shiM (n : Int) (t : PT) : Meas := { partM [t] t.m.cells t.m.leaves with low := t.m.low.map (· + n), high := if t.m.low.isSome then t.m.high.map (· + n) else none }
def shiT (n : Int) (t : PT) : PT := .mk .shift n [t] (shiM n t)
theorem measOk0 {c : Int} (hc : 1 ≤ c ∧ c ≤ 2000) : MeasOk (partM [] c 1) := ⟨hc, show (1 : Int) ≤ 1 ∧ (1 : Int) ≤ 900 by decide, show (1 : Int) ≤ 1 + 0 ∧ (1 : Int) + 0 ≤ 1500 by decide, show (1 : Int) ≤ 1 + 0 ∧ (1 : Int) + 0 ≤ 12 by decide⟩
theorem tone_ok {p c : Int} (hp : 0 ≤ p ∧ p ≤ 127) (hc : 1 ≤ c ∧ c ≤ 2000) : m_Tone_init p c = .ok (toneT p c) := by
  unfold m_Tone_init
  rw [look_ok hp, cal_ok rfl, part_ok (by decide) (fun _ h => by cases h) (measOk0 hc), cal_ok rfl]
  rfl
theorem rest_ok {c : Int} (hc : 1 ≤ c ∧ c ≤ 2000) : m_Rest_init c = .ok (restT c) := by
  unfold m_Rest_init
  rw [part_ok (by decide) (fun _ h => by cases h) (measOk0 hc), cal_ok rfl]
  rfl
theorem row_ok {ts : List PT} (hl : ts.length < 1000000) (hh : ∀ t ∈ ts, LH t) (h : MeasOk (rowM ts)) : m_Row_init ts = .ok (rowT ts) := by
  unfold m_Row_init
  rw [req_pos hl, part_ok hl hh h, cal_ok rfl]
  rfl
theorem bes_ok {ts : List PT} (hl : ts.length < 1000000) (h2 : 2 ≤ ts.length) (hh : ∀ t ∈ ts, LH t) (h : MeasOk (besM ts)) : m_Beside_init ts = .ok (besT ts) := by
  unfold m_Beside_init
  rw [decide_eq_false (by omega), if_neg Bool.false_ne_true, req_pos ⟨hl, by rw [List.length_map]; omega⟩]
  dsimp only [bnd]
  rw [req_pos hl, part_ok hl hh h, cal_ok rfl]
  rfl
theorem cmul_r {a b : Int} (h : -(2 ^ 64) < b ∧ b < 2 ^ 64) : CMul a b := cmul_of (.inr h)
theorem cmul_l {a b : Int} (h : -(2 ^ 64) < a ∧ a < 2 ^ 64) : CMul a b := cmul_of (.inl h)
theorem one_few {t : PT} : [t].length < 1000000 := show 1 < 1000000 by decide
theorem row_no {ts : List PT} (hl : ts.length < 1000000) (hh : ∀ t ∈ ts, LH t) (h : ¬MeasOk (rowM ts)) : m_Row_init ts = .ex .noPart () := by
  unfold m_Row_init
  rw [req_pos hl, part_no hl hh h, cal_ex rfl]
theorem bes_no {ts : List PT} (hl : ts.length < 1000000) (h2 : 2 ≤ ts.length) (hh : ∀ t ∈ ts, LH t) (h : ¬MeasOk (besM ts)) : m_Beside_init ts = .ex .noPart () := by
  unfold m_Beside_init
  rw [decide_eq_false (by omega), if_neg Bool.false_ne_true, req_pos ⟨hl, by rw [List.length_map]; omega⟩]
  dsimp only [bnd]
  rw [req_pos hl, part_no hl hh h, cal_ex rfl]
theorem low_in {ts : List PT} {l w a : Int} (h : (partM ts l w).low = some a) : ∃ t ∈ ts, t.m.low = some a := by
  have z := mnO_mem (show mnO (inLow ts) = some a from h)
  obtain ⟨t, ht, rfl⟩ := List.mem_map.mp z
  obtain ⟨h1, h2⟩ := List.mem_filter.mp ht
  exact ⟨t, h1, someG (by rw [← not_none]; exact h2)⟩
theorem high_in {ts : List PT} {l w b : Int} (hh : ∀ t ∈ ts, LH t) (h : (partM ts l w).high = some b) : ∃ t ∈ ts, t.m.high = some b := by
  have z := mxO_mem (show mxO (inHigh ts) = some b from h)
  obtain ⟨t, ht, rfl⟩ := List.mem_map.mp z
  obtain ⟨h1, h2⟩ := List.mem_filter.mp ht
  exact ⟨t, h1, someG (hh t h1 (by rw [← not_none]; exact h2))⟩
theorem lh_part {ts : List PT} {l w : Int} (h : (partM ts l w).low.isSome = true) : (partM ts l w).high.isSome = true := by
  have h' : (mnO ((ts.filter fun t => (!Option.isNone t.m.low)).map fun t => oG t.m.low)).isSome = true := h
  show (mxO ((ts.filter fun t => (!Option.isNone t.m.low)).map fun t => oG t.m.high)).isSome = true
  cases e : ts.filter fun t => (!Option.isNone t.m.low) with
  | nil => rw [e] at h'; cases h'
  | cons x t => rfl
theorem inLow_1 {t : PT} {l w : Int} : (partM [t] l w).size = 1 + t.m.size := by show 1 + ([t.m.size].sum) = _; rw [List.sum_cons, List.sum_nil, Int.add_zero]
theorem inDep_1 {t : PT} {l w : Int} : (partM [t] l w).depth = 1 + t.m.depth := rfl

/-! words of parts -/
abbrev DU := Int × Int × Int × Int × Option Int × Option Int × List Str
theorem num_log {i : Int} (h : i.natAbs < 2 ^ 100) : i.natAbs.log2 < 1920 := by
  by_cases q : i.natAbs = 0
  · rw [q]; decide
  · exact Nat.lt_of_lt_of_le ((Nat.log2_lt q).mpr h) (by decide)
theorem num_short {i : Int} (h : i.natAbs < 2 ^ 100) : (numT i).length ≤ 1001 := numT_small (Nat.lt_of_lt_of_le h (by decide))
theorem one_str {s : String} {n : Nat} (h : s.length = n) : (s : Str).length = n := (strLen_ofString s).trans h
/-- t's words -/
def WD (d : Nat) (t : PT) (ws : List Str) : Prop := ∀ fu, d ≤ fu → m_words fu t = .ok ws
theorem WD.mono {d d' : Nat} {t : PT} {ws : List Str} (h : WD d t ws) (e : d ≤ d') : WD d' t ws := fun fu hf => h fu (Nat.le_trans e hf)
theorem wd_pos {fu d : Nat} (h : d + 1 ≤ fu) : ∃ f, fu = f + 1 ∧ d ≤ f := ⟨fu - 1, by omega, by omega⟩
theorem wd_tone {p c : Int} (hp : 0 ≤ p ∧ p ≤ 127) (hc : 1 ≤ c ∧ c ≤ 2000) : WD 1 (toneT p c) [numT p ++ "." ++ numT c] := by
  intro fu hf
  obtain ⟨f, rfl, _⟩ := wd_pos (d := 0) hf
  rw [m_words]
  show b_Tone_words _ _ = _
  unfold b_Tone_words
  have hp' : p.natAbs < 2 ^ 100 := Nat.lt_of_le_of_lt (by omega : p.natAbs ≤ 2000) (by decide)
  have hc' : c.natAbs < 2 ^ 100 := Nat.lt_of_le_of_lt (by omega : c.natAbs ≤ 2000) (by decide)
  have z1 := num_short hp'; have z2 := num_short hc'; have e1 : ("." : Str).length = 1 := one_str rfl
  exact req_pos ⟨rfl, num_log hp', by show (numT p).length + _ ≤ _; omega, num_log hc', by show (numT p ++ (".":Str)).length + (numT c).length ≤ _; rw [str_len_app]; omega⟩
theorem wd_rest {c : Int} (hc : 1 ≤ c ∧ c ≤ 2000) : WD 1 (restT c) [("r." : Str) ++ numT c] := by
  intro fu hf
  obtain ⟨f, rfl, _⟩ := wd_pos (d := 0) hf
  rw [m_words]
  show b_Rest_words _ _ = _
  unfold b_Rest_words
  have hc' : c.natAbs < 2 ^ 100 := Nat.lt_of_le_of_lt (by omega : c.natAbs ≤ 2000) (by decide)
  have z2 := num_short hc'; have e1 : ("r." : Str).length = 2 := one_str rfl
  exact req_pos ⟨num_log hc', by show _ + (numT c).length ≤ _; omega⟩
def wflat (xs : List (PT × DU)) : List Str := xs.flatMap fun x => x.2.2.2.2.2.2.2
theorem wflat_at {xs : List (PT × DU)} {x : PT × DU} {i : Nat} (h : xs[i]? = some x) : wflat (xs.take (i + 1)) = wflat (xs.take i) ++ x.2.2.2.2.2.2.2 := by
  unfold wflat; rw [take_at h, List.flatMap_append, List.flatMap_cons, List.flatMap_nil, List.append_nil]
theorem wflat_take {xs : List (PT × DU)} {i : Nat} : (wflat (xs.take i)).length ≤ (wflat xs).length := by
  conv => rhs; rw [← List.take_append_drop i xs]
  unfold wflat; rw [List.flatMap_append, List.length_append]; omega
theorem wd_row {d : Nat} {xs : List (PT × DU)} {m : Meas} (hs : ∀ x ∈ xs, WD d x.1 x.2.2.2.2.2.2.2) (hl : (wflat xs).length ≤ 900000) : WD (d + 1) (.mk .row 0 (xs.map (·.1)) m) ([("(" : Str)] ++ wflat xs ++ [(")" : Str)]) := by
  intro fu hf
  obtain ⟨f, rfl, hg⟩ := wd_pos hf
  refine Gives.eq ?_
  rw [m_words]
  show Ends (b_Row_words _ _) _ _
  unfold b_Row_words
  refine Ends.bnd fun f1 e1 => ?_
  refine Ends.for1 (fun i fo => fo = [("(" : Str)] ++ wflat (xs.take i)) e1 (fun i t fo hx e2 k hk => ?_) fun fo e2 => ?_
  · have hx' : (xs.map (·.1))[i]? = some t := hx
    rw [List.getElem?_map] at hx'
    obtain ⟨x, hx2, rfl⟩ := Option.map_eq_some_iff.mp hx'
    have z := wflat_take (xs := xs) (i := i + 1)
    rw [wflat_at hx2, List.length_append] at z
    rw [hs x (List.mem_of_getElem? hx2) f hg]
    refine Ends.req ⟨trivial, by rw [e2, List.length_append]; show 1 + _ + (x.2.2.2.2.2.2.2).length ≤ _; omega⟩ ?_
    refine Ends.bnd fun f3 e3 => ?_
    refine hk _ ?_
    rw [e3, e2, wflat_at hx2, List.append_assoc]; rfl
  · have e : (xs.map (·.1)).length = xs.length := List.length_map _
    rw [show (Y.PT.mk PKind.row 0 (xs.map (·.1)) m).inner.length = xs.length from e, List.take_length] at e2
    refine Ends.req (by rw [e2, List.length_append]; show 1 + _ < _; omega) ?_
    refine Ends.bnd fun f4 e4 => ?_
    show f4 = _
    rw [e4, e2]

def wbar (xs : List (PT × DU)) : List Str := xs.flatMap fun x => ("|" : Str) :: x.2.2.2.2.2.2.2
theorem wbar_at {xs : List (PT × DU)} {x : PT × DU} {i : Nat} (h : xs[i]? = some x) : wbar (xs.take (i + 1)) = wbar (xs.take i) ++ [("|" : Str)] ++ x.2.2.2.2.2.2.2 := by
  unfold wbar; rw [take_at h, List.flatMap_append, List.flatMap_cons, List.flatMap_nil, List.append_nil, List.append_assoc]; rfl
theorem wbar_take {xs : List (PT × DU)} {i : Nat} : (wbar (xs.take i)).length ≤ (wbar xs).length := by
  conv => rhs; rw [← List.take_append_drop i xs]
  unfold wbar; rw [List.flatMap_append, List.length_append]; omega
theorem cut_1 {α : Type} {xs : List α} : cutL xs (some 1) none = xs.drop 1 := cut_from (by decide)
theorem wd_bes {d : Nat} {xs : List (PT × DU)} {m : Meas} (hs : ∀ x ∈ xs, WD d x.1 x.2.2.2.2.2.2.2) (hl : (wbar xs).length ≤ 900000) : WD (d + 1) (.mk .beside 0 (xs.map (·.1)) m) ([("[" : Str)] ++ (wbar xs).drop 1 ++ [("]" : Str)]) := by
  intro fu hf
  obtain ⟨f, rfl, hg⟩ := wd_pos hf
  refine Gives.eq ?_
  rw [m_words]
  show Ends (b_Beside_words _ _) _ _
  unfold b_Beside_words
  refine Ends.bnd fun f1 e1 => ?_
  refine Ends.for1 (fun i fo => fo = wbar (xs.take i)) e1 (fun i t fo hx e2 k hk => ?_) fun fo e2 => ?_
  · have hx' : (xs.map (·.1))[i]? = some t := hx
    rw [List.getElem?_map] at hx'
    obtain ⟨x, hx2, rfl⟩ := Option.map_eq_some_iff.mp hx'
    have z := wbar_take (xs := xs) (i := i + 1)
    rw [wbar_at hx2, List.length_append, List.length_append] at z
    have z' : (wbar (xs.take i)).length + 1 + (x.2.2.2.2.2.2.2).length ≤ (wbar xs).length := z
    refine Ends.req (by rw [e2]; omega) ?_
    refine Ends.bnd fun f3 e3 => ?_
    rw [hs x (List.mem_of_getElem? hx2) f hg]
    refine Ends.req ⟨trivial, by rw [e3, e2, List.length_append]; show _ + 1 + (x.2.2.2.2.2.2.2).length ≤ _; omega⟩ ?_
    refine Ends.bnd fun f4 e4 => ?_
    refine hk _ ?_
    rw [e4, e3, e2, wbar_at hx2]; rfl
  · have e : (xs.map (·.1)).length = xs.length := List.length_map _
    rw [show (Y.PT.mk PKind.beside 0 (xs.map (·.1)) m).inner.length = xs.length from e, List.take_length] at e2
    have hd : ((wbar xs).drop 1).length ≤ 900000 := by rw [List.length_drop]; omega
    rw [cut_1, e2]
    refine Ends.req ⟨by show 1 + _ ≤ _; omega, by rw [List.length_append]; show 1 + _ + 1 ≤ _; omega⟩ ?_
    rfl

/-! a part as it is due -/
structure Due (t : PT) (x : DU) : Prop where
  c : t.m.cells = x.1
  l : t.m.leaves = x.2.1
  z : t.m.size = x.2.2.1
  d : t.m.depth = x.2.2.2.1
  lo : t.m.low = x.2.2.2.2.1
  hi : t.m.high = x.2.2.2.2.2.1
  ok : MeasOk t.m
  wd : WD x.2.2.2.1.toNat t x.2.2.2.2.2.2
  wl : (x.2.2.2.2.2.2.length : Int) + 1 ≤ 5 * x.2.2.1
  pi : (x.2.2.2.2.1 = none ∧ x.2.2.2.2.2.1 = none) ∨ ∃ a b, x.2.2.2.2.1 = some a ∧ x.2.2.2.2.2.1 = some b ∧ 0 ≤ a ∧ a ≤ b ∧ b ≤ 127
theorem Due.lh {t : PT} {x : DU} (h : Due t x) : LH t := fun z => by
  rw [h.lo] at z; rw [h.hi]
  rcases h.pi with ⟨e, _⟩ | ⟨a, b, _, e, _⟩
  · rw [e] at z; cases z
  · rw [e]; rfl
/-- the seven numbers as the law puts them together -/
def madeD (l w : Int) (xs : List DU) (ws : List Str) : DU := (l, w, 1 + (xs.map fun x => x.2.2.1).sum, 1 + mxD 0 (xs.map fun x => x.2.2.2.1), mnO ((xs.filter fun x => (!Option.isNone x.2.2.2.2.1)).map fun x => oG x.2.2.2.2.1), mxO ((xs.filter fun x => (!Option.isNone x.2.2.2.2.2.1)).map fun x => oG x.2.2.2.2.2.1), ws)
theorem mnO_le {xs : List Int} {a x : Int} (h : mnO xs = some a) (hx : x ∈ xs) : a ≤ x := by
  cases xs with
  | nil => cases h
  | cons y t => have z := mnD_le (d := 0) hx; cases h; exact z
theorem mxO_ge {xs : List Int} {a x : Int} (h : mxO xs = some a) (hx : x ∈ xs) : x ≤ a := by
  cases xs with
  | nil => cases h
  | cons y t => have z := mxD_ge (d := 0) hx; cases h; exact z
section
variable {ps : List (PT × DU)} (h : ∀ p ∈ ps, Due p.1 p.2)
include h
theorem due_lows : inLow (ps.map (·.1)) = ((ps.map (·.2)).filter fun x => (!Option.isNone x.2.2.2.2.1)).map fun x => oG x.2.2.2.2.1 := by
  unfold inLow
  induction ps with
  | nil => rfl
  | cons p t ih =>
    have i := ih fun q hq => h q (by simp [hq])
    have e := (h p (by simp)).lo
    rw [List.map_cons, List.map_cons, List.filter_cons, List.filter_cons, e]
    cases (!Option.isNone p.2.2.2.2.2.1) with
    | true => rw [if_pos rfl, if_pos rfl, List.map_cons, List.map_cons, i, e]
    | false => rw [if_neg Bool.false_ne_true, if_neg Bool.false_ne_true, i]
theorem due_highs : inHigh (ps.map (·.1)) = ((ps.map (·.2)).filter fun x => (!Option.isNone x.2.2.2.2.2.1)).map fun x => oG x.2.2.2.2.2.1 := by
  unfold inHigh
  induction ps with
  | nil => rfl
  | cons p t ih =>
    have i := ih fun q hq => h q (by simp [hq])
    have e := (h p (by simp)).lo
    have e2 := (h p (by simp)).hi
    have e3 : (!Option.isNone p.2.2.2.2.2.1) = (!Option.isNone p.2.2.2.2.2.2.1) := by
      rcases (h p (by simp)).pi with ⟨a, b⟩ | ⟨a, b, c, d, _⟩
      · rw [a, b]
      · rw [c, d]; rfl
    rw [List.map_cons, List.map_cons, List.filter_cons, List.filter_cons, e, e3]
    cases (!Option.isNone p.2.2.2.2.2.2.1) with
    | true => rw [if_pos rfl, if_pos rfl, List.map_cons, List.map_cons, i, e2]
    | false => rw [if_neg Bool.false_ne_true, if_neg Bool.false_ne_true, i]
theorem due_sum {f : PT → Int} {g : DU → Int} (e : ∀ t x, Due t x → f t = g x) : (ps.map (·.1)).map f = (ps.map (·.2)).map g := by
  rw [List.map_map, List.map_map]; exact List.map_congr_left fun p hp => e _ _ (h p hp)
theorem due_made {l w : Int} {ws : List Str} : (partM (ps.map (·.1)) l w).size = (madeD l w (ps.map (·.2)) ws).2.2.1 ∧ (partM (ps.map (·.1)) l w).depth = (madeD l w (ps.map (·.2)) ws).2.2.2.1 ∧ (partM (ps.map (·.1)) l w).low = (madeD l w (ps.map (·.2)) ws).2.2.2.2.1 ∧ (partM (ps.map (·.1)) l w).high = (madeD l w (ps.map (·.2)) ws).2.2.2.2.2.1 := by
  refine ⟨?_, ?_, ?_, ?_⟩
  · show 1 + ((ps.map (·.1)).map fun t => t.m.size).sum = 1 + _; rw [due_sum h fun t x q => q.z]
  · show 1 + mxD 0 ((ps.map (·.1)).map fun t => t.m.depth) = 1 + _; rw [due_sum h fun t x q => q.d]
  · show mnO (inLow _) = mnO _; rw [due_lows h]
  · show mxO (inHigh _) = mxO _; rw [due_highs h]
theorem due_pi {l w : Int} {ws : List Str} {x : DU} (hx : x = madeD l w (ps.map (·.2)) ws) : (x.2.2.2.2.1 = none ∧ x.2.2.2.2.2.1 = none) ∨ ∃ a b, x.2.2.2.2.1 = some a ∧ x.2.2.2.2.2.1 = some b ∧ 0 ≤ a ∧ a ≤ b ∧ b ≤ 127 := by
  subst hx
  show (mnO (((ps.map (·.2)).filter fun x => (!Option.isNone x.2.2.2.2.1)).map fun x => oG x.2.2.2.2.1) = none ∧ mxO (((ps.map (·.2)).filter fun x => (!Option.isNone x.2.2.2.2.2.1)).map fun x => oG x.2.2.2.2.2.1) = none) ∨ ∃ a b, mnO (((ps.map (·.2)).filter fun x => (!Option.isNone x.2.2.2.2.1)).map fun x => oG x.2.2.2.2.1) = some a ∧ mxO (((ps.map (·.2)).filter fun x => (!Option.isNone x.2.2.2.2.2.1)).map fun x => oG x.2.2.2.2.2.1) = some b ∧ _
  have e : ((ps.map (·.2)).filter fun x : DU => (!Option.isNone x.2.2.2.2.2.1)) = (ps.map (·.2)).filter fun x : DU => (!Option.isNone x.2.2.2.2.1) := by
    refine List.filter_congr fun x hx => ?_
    obtain ⟨p, hp, rfl⟩ := List.mem_map.mp hx
    rcases (h p hp).pi with ⟨a, b⟩ | ⟨a, b, c, d, _⟩
    · rw [a, b]
    · rw [c, d]; rfl
  rw [e]
  have hq : ∀ x ∈ (ps.map (·.2)).filter (fun x : DU => (!Option.isNone x.2.2.2.2.1)), 0 ≤ oG x.2.2.2.2.1 ∧ oG x.2.2.2.2.1 ≤ oG x.2.2.2.2.2.1 ∧ oG x.2.2.2.2.2.1 ≤ 127 := fun x hx => by
    obtain ⟨h1, h2⟩ := List.mem_filter.mp hx
    obtain ⟨p, hp, rfl⟩ := List.mem_map.mp h1
    rcases (h p hp).pi with ⟨a, b⟩ | ⟨a, b, c, d, q1, q2, q3⟩
    · rw [a] at h2; cases h2
    · rw [c, d]; exact ⟨q1, q2, q3⟩
  cases e2 : (ps.map (·.2)).filter (fun x : DU => (!Option.isNone x.2.2.2.2.1)) with
  | nil => exact .inl ⟨rfl, rfl⟩
  | cons y t =>
    rw [e2] at hq
    right
    refine ⟨_, _, rfl, rfl, ?_, ?_, ?_⟩
    · obtain ⟨x, hx, e⟩ := List.mem_map.mp (mnO_mem (xs := (y :: t).map fun x : DU => oG x.2.2.2.2.1) rfl)
      have := hq x hx; omega
    · have h1 := mnO_le (xs := (y :: t).map fun x : DU => oG x.2.2.2.2.1) rfl (List.mem_map_of_mem (List.mem_cons_self ..))
      have h2 := mxO_ge (xs := (y :: t).map fun x : DU => oG x.2.2.2.2.2.1) rfl (List.mem_map_of_mem (List.mem_cons_self ..))
      have := hq y (by simp); omega
    · obtain ⟨x, hx, e⟩ := List.mem_map.mp (mxO_mem (xs := (y :: t).map fun x : DU => oG x.2.2.2.2.2.1) rfl)
      have := hq x hx; omega
theorem due_deep {p : PT × DU} (hp : p ∈ ps) : p.2.2.2.2.1 + 1 ≤ 1 + mxD 0 ((ps.map (·.2)).map fun x => x.2.2.2.1) := by
  have := mxD_ge (d := 0) (List.mem_map_of_mem (f := fun x : DU => x.2.2.2.1) (List.mem_map_of_mem (f := (·.2)) hp)); omega
theorem due_wflat : ((wflat ps).length : Int) ≤ 5 * ((ps.map (·.2)).map fun x => x.2.2.1).sum := by
  induction ps with
  | nil => exact Int.le_refl _
  | cons p t ih =>
    have i := ih fun q hq => h q (by simp [hq])
    have w := (h p (by simp)).wl
    unfold wflat at i ⊢
    rw [List.flatMap_cons, List.length_append, List.map_cons, List.map_cons, List.sum_cons, Int.natCast_add, Int.mul_add]; omega
theorem due_wds : ∀ x ∈ ps, WD (mxD 0 ((ps.map (·.2)).map fun x => x.2.2.2.1)).toNat x.1 x.2.2.2.2.2.2.2 := fun p hp => (h p hp).wd.mono (by have := due_deep h hp; omega)
end
/-- what holds of a made part -/
theorem Due.mk' {k : PKind} {n l w : Int} {ps : List (PT × DU)} {ws : List Str} (h : ∀ p ∈ ps, Due p.1 p.2) (hm : MeasOk (partM (ps.map (·.1)) l w)) (hw : WD ((mxD 0 ((ps.map (·.2)).map fun x => x.2.2.2.1)).toNat + 1) (.mk k n (ps.map (·.1)) (partM (ps.map (·.1)) l w)) ws)
    (hl : (ws.length : Int) + 1 ≤ 5 * (1 + ((ps.map (·.2)).map fun x => x.2.2.1).sum)) : Due (.mk k n (ps.map (·.1)) (partM (ps.map (·.1)) l w)) (madeD l w (ps.map (·.2)) ws) := by
  obtain ⟨e1, e2, e3, e4⟩ := due_made h (l := l) (w := w) (ws := ws)
  refine ⟨rfl, rfl, e1, e2, e3, e4, hm, hw.mono ?_, hl, due_pi h rfl⟩
  show _ ≤ (1 + mxD 0 _).toNat
  have := mxD_ge0 (xs := (ps.map (·.2)).map fun x => x.2.2.2.1) fun y hy => by
    obtain ⟨x, hx, rfl⟩ := List.mem_map.mp hy
    obtain ⟨p, hp, rfl⟩ := List.mem_map.mp hx
    have := (h p hp).ok.2.2.2.1; have e := (h p hp).d; omega
  omega
def rowD (xs : List DU) : DU := madeD (xs.map fun x => x.1).sum (xs.map fun x => x.2.1).sum xs ([("(" : Str)] ++ (xs.flatMap fun x => x.2.2.2.2.2.2) ++ [(")" : Str)])
theorem wflat_snd {ps : List (PT × DU)} : wflat ps = (ps.map (·.2)).flatMap fun x => x.2.2.2.2.2.2 := by unfold wflat; rw [List.flatMap_map]
theorem rowM_due {ps : List (PT × DU)} (h : ∀ p ∈ ps, Due p.1 p.2) : rowM (ps.map (·.1)) = partM (ps.map (·.1)) (rowD (ps.map (·.2))).1 (rowD (ps.map (·.2))).2.1 := by
  unfold rowM
  rw [due_sum h (f := fun t => t.m.cells) (g := fun x => x.1) fun t x q => q.c, due_sum h (f := fun t => t.m.leaves) (g := fun x => x.2.1) fun t x q => q.l]; rfl
def InD (x : DU) : Prop := (1 ≤ x.1 ∧ x.1 ≤ 2000) ∧ (1 ≤ x.2.1 ∧ x.2.1 ≤ 900) ∧ (1 ≤ x.2.2.1 ∧ x.2.2.1 ≤ 1500) ∧ (1 ≤ x.2.2.2.1 ∧ x.2.2.2.1 ≤ 12)
theorem inD_iff {ps : List (PT × DU)} (h : ∀ p ∈ ps, Due p.1 p.2) {l w : Int} {ws : List Str} : MeasOk (partM (ps.map (·.1)) l w) ↔ InD (madeD l w (ps.map (·.2)) ws) := by
  obtain ⟨e1, e2, _, _⟩ := due_made h (l := l) (w := w) (ws := ws)
  unfold MeasOk InD
  rw [e1, e2]; rfl
/-- m makes the part that is due, or refuses it -/
def MadeD (m : Rs PT) (x : DU) : Prop := (InD x → ∃ t, m = .ok t ∧ Due t x) ∧ (¬InD x → m = .ex .noPart ())
theorem due_row {ps : List (PT × DU)} (h : ∀ p ∈ ps, Due p.1 p.2) (hl : ps.length ≤ 100000) : MadeD (m_Row_init (ps.map (·.1))) (rowD (ps.map (·.2))) := by
  have hl2 : (ps.map (·.1)).length < 1000000 := by rw [List.length_map]; omega
  have hh : ∀ t ∈ ps.map (·.1), LH t := fun t ht => by obtain ⟨p, hp, rfl⟩ := List.mem_map.mp ht; exact (h p hp).lh
  have hr := rowM_due h
  have hi := inD_iff h (l := (rowD (ps.map (·.2))).1) (w := (rowD (ps.map (·.2))).2.1) (ws := [("(" : Str)] ++ ((ps.map (·.2)).flatMap fun x => x.2.2.2.2.2.2) ++ [(")" : Str)])
  rw [← hr] at hi
  refine ⟨fun q => ⟨_, row_ok hl2 hh (hi.mpr q), ?_⟩, fun q => row_no hl2 hh fun z => q (hi.mp z)⟩
  unfold rowT
  rw [hr]
  have hwf := due_wflat h
  have hsz : ((ps.map (·.2)).map fun x => x.2.2.1).sum ≤ 1500 := by have z : (1 : Int) + _ ≤ 1500 := q.2.2.1.2; omega
  refine Due.mk' h (by rw [← hr]; exact hi.mpr q) ?_ ?_
  · rw [← wflat_snd]
    exact wd_row (due_wds h) (by omega)
  · rw [← wflat_snd, List.length_append, List.length_append]
    show ((1 + (wflat ps).length + 1 : Nat) : Int) + 1 ≤ _
    omega
theorem due_tone {p c : Int} (hp : 0 ≤ p ∧ p ≤ 127) (hc : 1 ≤ c ∧ c ≤ 2000) : Due (toneT p c) (c, 1, 1, 1, some p, some p, [numT p ++ "." ++ numT c]) :=
  ⟨rfl, rfl, rfl, rfl, rfl, rfl, ⟨hc, show (1 : Int) ≤ 1 ∧ (1 : Int) ≤ 900 by decide, show (1 : Int) ≤ 1 ∧ (1 : Int) ≤ 1500 by decide, show (1 : Int) ≤ 1 ∧ (1 : Int) ≤ 12 by decide⟩, wd_tone hp hc, show (1 : Int) + 1 ≤ 5 by decide, .inr ⟨p, p, rfl, rfl, hp.1, Int.le_refl _, hp.2⟩⟩
theorem due_rest {c : Int} (hc : 1 ≤ c ∧ c ≤ 2000) : Due (restT c) (c, 1, 1, 1, none, none, [("r." : Str) ++ numT c]) :=
  ⟨rfl, rfl, rfl, rfl, rfl, rfl, ⟨hc, show (1 : Int) ≤ 1 ∧ (1 : Int) ≤ 900 by decide, show (1 : Int) ≤ 1 ∧ (1 : Int) ≤ 1500 by decide, show (1 : Int) ≤ 1 ∧ (1 : Int) ≤ 12 by decide⟩, wd_rest hc, show (1 : Int) + 1 ≤ 5 by decide, .inl ⟨rfl, rfl⟩⟩
theorem kinds_is : m_kinds () = .ok true := by
  unfold m_kinds
  dsimp only [bnd]
  rw [req_pos (by decide)]; rfl
theorem Due.are {t : PT} {x : DU} (h : Due t x) : m_are t x = .ok true := by
  have hw : m_words 13 t = .ok x.2.2.2.2.2.2 := h.wd 13 (by have := h.ok.2.2.2.2; have := h.d; omega)
  refine Gives.eq ?_
  unfold m_are
  refine Ends.bnd fun f1 e1 => ?_
  refine Ends.bnd fun f2 e2 => ?_
  have l1 : f1.length = 4 := by rw [e1]; rfl
  have l2 : f2.length = 2 := by rw [e2]; rfl
  refine Ends.req ⟨by omega, ?_⟩ ?_
  · have := List.length_filter_le (fun end__c1 : Option Int => (!Option.isNone end__c1)) f2
    rw [List.length_map]; omega
  refine Ends.for0 (fun _ => True) trivial (fun i y hy _ k hk => ?_) fun _ => ?_
  · refine Ends.req trivial ?_
    rw [if_neg (by show ¬(!true) = true; decide)]
    exact hk trivial
  · rw [hw]
    refine Ends.req trivial ?_
    refine Ends.bnd fun w1 ew => ?_
    rw [if_neg (by decide)]
    refine Ends.for0 (fun _ => True) trivial (fun i y hy _ k hk => ?_) fun _ => ?_
    · rw [if_neg (by decide)]; exact hk trivial
    · refine Ends.req (by rw [List.length_map]; omega) ?_
      show (decide (_ = _) && decide (_ = _)) = true
      rw [Bool.and_eq_true, decide_eq_true_eq, decide_eq_true_eq]
      refine ⟨?_, ew⟩
      rw [e1, e2, h.c, h.l, h.z, h.d, h.lo, h.hi]; rfl

/-! one part, changed -/
theorem one_lows {x : DU} (h : (x.2.2.2.2.1 = none ∧ x.2.2.2.2.2.1 = none) ∨ ∃ a b, x.2.2.2.2.1 = some a ∧ x.2.2.2.2.2.1 = some b ∧ 0 ≤ a ∧ a ≤ b ∧ b ≤ 127) {l w : Int} {ws : List Str} : madeD l w [x] ws = (l, w, x.2.2.1 + 1, x.2.2.2.1 + 1, x.2.2.2.2.1, x.2.2.2.2.2.1, ws) := by
  obtain ⟨x1, x2, x3, x4, x5, x6, x7⟩ := x
  have h' : (x5 = none ∧ x6 = none) ∨ ∃ a b, x5 = some a ∧ x6 = some b ∧ 0 ≤ a ∧ a ≤ b ∧ b ≤ 127 := h
  show (l, w, 1 + (x3 + 0), 1 + x4, mnO _, mxO _, ws) = _
  rw [show 1 + (x3 + 0) = x3 + 1 by omega, show 1 + x4 = x4 + 1 by omega]
  rcases h' with ⟨rfl, rfl⟩ | ⟨a, b, rfl, rfl, _⟩
  · rfl
  · rfl
theorem one_due {t : PT} {x : DU} (h : Due t x) : ∀ p ∈ [(t, x)], Due p.1 p.2 := fun p hp => by rw [List.mem_singleton.mp hp]; exact h
theorem due_one {k : PKind} {n l w : Int} {t : PT} {x : DU} {ws : List Str} (h : Due t x) (hm : MeasOk (partM [t] l w)) (hw : WD (x.2.2.2.1.toNat + 1) (.mk k n [t] (partM [t] l w)) ws) (hl : (ws.length : Int) + 1 ≤ 5 * (x.2.2.1 + 1)) : Due (.mk k n [t] (partM [t] l w)) (l, w, x.2.2.1 + 1, x.2.2.2.1 + 1, x.2.2.2.2.1, x.2.2.2.2.2.1, ws) := by
  have z := Due.mk' (ps := [(t, x)]) (k := k) (n := n) (l := l) (w := w) (ws := ws) (one_due h) hm hw (by show _ ≤ 5 * (1 + (x.2.2.1 + 0)); omega)
  rw [show [(t, x)].map (·.2) = [x] from rfl, one_lows h.pi] at z
  exact z
theorem Due.small {t : PT} {x : DU} (h : Due t x) : x.2.2.2.2.2.2.length ≤ 900000 := by have := h.wl; have := h.ok.2.2.1.2; have := h.z; omega
theorem Due.inD {t : PT} {x : DU} (h : Due t x) : InD x := by
  have z := h.ok
  unfold MeasOk at z
  rw [h.c, h.l, h.z, h.d] at z; exact z
theorem part1_iff {t : PT} {x : DU} (h : Due t x) {l w : Int} {lo hi : Option Int} {ws : List Str} : MeasOk (partM [t] l w) ↔ InD (l, w, x.2.2.1 + 1, x.2.2.2.1 + 1, lo, hi, ws) := by
  unfold MeasOk InD
  rw [inLow_1, inDep_1, h.z, h.d, show 1 + x.2.2.1 = x.2.2.1 + 1 by omega, show 1 + x.2.2.2.1 = x.2.2.2.1 + 1 by omega]; rfl
/-- bounds of a number, and of what comes -/
def FitD (a b n : Int) (x : DU) : Prop := (a ≤ n ∧ n ≤ b) ∧ (∀ p, x.2.2.2.2.1 = some p → 0 ≤ p) ∧ (∀ p, x.2.2.2.2.2.1 = some p → p ≤ 127) ∧ InD x
def MadeF (m : Rs PT) (a b n : Int) (x : DU) : Prop := (FitD a b n x → ∃ t, m = .ok t ∧ Due t x) ∧ (¬FitD a b n x → m = .ex .noPart ())
def besD (xs : List DU) : DU := madeD (mxD 0 (xs.map fun x => x.1)) (xs.map fun x => x.2.1).sum xs ([("[" : Str)] ++ (xs.flatMap fun x => ("|" : Str) :: x.2.2.2.2.2.2).drop 1 ++ [("]" : Str)])
theorem wbar_snd {ps : List (PT × DU)} : wbar ps = (ps.map (·.2)).flatMap fun x => ("|" : Str) :: x.2.2.2.2.2.2 := by unfold wbar; rw [List.flatMap_map]
theorem due_wbar {ps : List (PT × DU)} (h : ∀ p ∈ ps, Due p.1 p.2) : ((wbar ps).length : Int) ≤ 5 * ((ps.map (·.2)).map fun x => x.2.2.1).sum := by
  induction ps with
  | nil => exact Int.le_refl _
  | cons p t ih =>
    have i := ih fun q hq => h q (by simp [hq])
    have w := (h p (by simp)).wl
    unfold wbar at i ⊢
    rw [List.flatMap_cons, List.length_append, List.map_cons, List.map_cons, List.sum_cons, Int.natCast_add, Int.mul_add, List.length_cons]; omega
theorem besM_due {ps : List (PT × DU)} (h : ∀ p ∈ ps, Due p.1 p.2) : besM (ps.map (·.1)) = partM (ps.map (·.1)) (besD (ps.map (·.2))).1 (besD (ps.map (·.2))).2.1 := by
  unfold besM
  rw [due_sum h (f := fun t => t.m.cells) (g := fun x => x.1) fun t x q => q.c, due_sum h (f := fun t => t.m.leaves) (g := fun x => x.2.1) fun t x q => q.l]; rfl
theorem due_bes {ps : List (PT × DU)} (h : ∀ p ∈ ps, Due p.1 p.2) (hl : ps.length ≤ 100000) (h2 : 2 ≤ ps.length) : MadeD (m_Beside_init (ps.map (·.1))) (besD (ps.map (·.2))) := by
  have hl2 : (ps.map (·.1)).length < 1000000 := by rw [List.length_map]; omega
  have h2' : 2 ≤ (ps.map (·.1)).length := by rw [List.length_map]; exact h2
  have hh : ∀ t ∈ ps.map (·.1), LH t := fun t ht => by obtain ⟨p, hp, rfl⟩ := List.mem_map.mp ht; exact (h p hp).lh
  have hr := besM_due h
  have hi := inD_iff h (l := (besD (ps.map (·.2))).1) (w := (besD (ps.map (·.2))).2.1) (ws := [("[" : Str)] ++ ((ps.map (·.2)).flatMap fun x => ("|" : Str) :: x.2.2.2.2.2.2).drop 1 ++ [("]" : Str)])
  rw [← hr] at hi
  refine ⟨fun q => ⟨_, bes_ok hl2 h2' hh (hi.mpr q), ?_⟩, fun q => bes_no hl2 h2' hh fun z => q (hi.mp z)⟩
  unfold besT
  rw [hr]
  have hwf := due_wbar h
  have hsz : ((ps.map (·.2)).map fun x => x.2.2.1).sum ≤ 1500 := by have z : (1 : Int) + _ ≤ 1500 := q.2.2.1.2; omega
  refine Due.mk' h (by rw [← hr]; exact hi.mpr q) ?_ ?_
  · rw [← wbar_snd]
    exact wd_bes (due_wds h) (by omega)
  · rw [← wbar_snd, List.length_append, List.length_append, List.length_drop]
    show ((1 + ((wbar ps).length - 1) + 1 : Nat) : Int) + 1 ≤ _
    omega

theorem ends_is {xs : List DU} (hl : xs.length ≤ 100000) : m_ends xs = .ok (mnO ((xs.filter fun x => (!Option.isNone x.2.2.2.2.1)).map fun x => oG x.2.2.2.2.1), mxO ((xs.filter fun x => (!Option.isNone x.2.2.2.2.2.1)).map fun x => oG x.2.2.2.2.2.1)) := by
  unfold m_ends
  have h : xs.length < 1000000 := by omega
  rw [req_pos h]
  dsimp only [bnd]
  rw [req_pos h]
def wordsD (xs : List DU) : List Str := xs.flatMap fun x => x.2.2.2.2.2.2
theorem wordsD_at {xs : List DU} {x : DU} {i : Nat} (h : xs[i]? = some x) : wordsD (xs.take (i + 1)) = wordsD (xs.take i) ++ x.2.2.2.2.2.2 := by
  unfold wordsD; rw [take_at h, List.flatMap_append, List.flatMap_cons, List.flatMap_nil, List.append_nil]
theorem wordsD_take {xs : List DU} {i : Nat} : (wordsD (xs.take i)).length ≤ (wordsD xs).length := by
  conv => rhs; rw [← List.take_append_drop i xs]
  unfold wordsD; rw [List.flatMap_append, List.length_append]; omega
theorem row_is {xs : List DU} (hl : xs.length ≤ 100000) (h0 : xs ≠ []) (hw : (wordsD xs).length ≤ 900000) : m_row xs = .ok (rowD xs) := by
  have hp : 0 < xs.length := List.length_pos_iff.mpr h0
  refine Gives.eq ?_
  unfold m_row
  refine Ends.bnd fun w0 e0 => ?_
  refine Ends.for1 (fun i ws => ws = [("(" : Str)] ++ wordsD (xs.take i)) e0 (fun i x ws hx e2 k hk => ?_) fun ws e2 => ?_
  · have z := wordsD_take (xs := xs) (i := i + 1)
    rw [wordsD_at hx, List.length_append] at z
    refine Ends.req (by rw [e2, List.length_append]; show 1 + _ + _ ≤ _; omega) ?_
    refine Ends.bnd fun w3 e3 => ?_
    refine hk _ ?_
    rw [e3, e2, wordsD_at hx, List.append_assoc]
  · rw [List.take_length] at e2
    refine Ends.req (by omega) ?_
    refine Ends.bnd fun l1 el => ?_
    refine Ends.req (by omega) ?_
    refine Ends.bnd fun v1 ev => ?_
    refine Ends.req (by omega) ?_
    refine Ends.bnd fun z1 ez => ?_
    rw [ends_is hl]
    refine Ends.req ⟨by omega, by rw [List.length_map]; exact hp, trivial, by rw [e2, List.length_append]; show 1 + _ + 1 ≤ _; omega⟩ ?_
    show (_, _, _, _, _, _, _) = _
    rw [el, ev, ez, e2]; rfl
theorem sum_le_len {f : DU → Int} {b : Int} : ∀ {xs : List DU}, (∀ x ∈ xs, f x ≤ b) → (xs.map f).sum ≤ b * xs.length
  | [], _ => by show (0 : Int) ≤ b * ((0 : Nat) : Int); rw [Int.natCast_zero, Int.mul_zero]; exact Int.le_refl _
  | x :: t, h => by
    have h1 := h x (by simp)
    have h2 := sum_le_len (xs := t) fun y hy => h y (by simp [hy])
    rw [List.map_cons, List.sum_cons, List.length_cons, Int.natCast_add, Int.mul_add]; show _ ≤ _ + b * 1; omega

/-! a row within its bounds -/
theorem rowD_in {xs : List DU} (h0 : xs ≠ []) (h : ∀ x ∈ xs, InD x) {a b c e : Int} (ha : ∀ x ∈ xs, x.1 ≤ a) (hb : ∀ x ∈ xs, x.2.1 ≤ b) (hc : ∀ x ∈ xs, x.2.2.1 ≤ c) (he : ∀ x ∈ xs, x.2.2.2.1 ≤ e)
    (la : a * xs.length ≤ 2000) (lb : b * xs.length ≤ 900) (lc : c * xs.length ≤ 1499) (le : 0 ≤ e ∧ e ≤ 11) :
    InD (rowD xs) ∧ (rowD xs).1 ≤ a * xs.length ∧ (rowD xs).2.1 ≤ b * xs.length ∧ (rowD xs).2.2.1 ≤ 1 + c * xs.length ∧ (rowD xs).2.2.2.1 ≤ 1 + e := by
  obtain ⟨x0, hx0⟩ := List.exists_mem_of_ne_nil xs h0
  have s1 : (xs.map fun x => x.1).sum ≤ a * xs.length := sum_le_len ha
  have s2 : (xs.map fun x => x.2.1).sum ≤ b * xs.length := sum_le_len hb
  have s3 : (xs.map fun x => x.2.2.1).sum ≤ c * xs.length := sum_le_len hc
  have t1 : 1 ≤ (xs.map fun x => x.1).sum := Int.le_trans (h x0 hx0).1.1 (sum_ge_mem (fun y hy => by obtain ⟨x, hx, rfl⟩ := List.mem_map.mp hy; have := (h x hx).1.1; omega) (List.mem_map_of_mem (f := fun x : DU => x.1) hx0))
  have t2 : 1 ≤ (xs.map fun x => x.2.1).sum := Int.le_trans (h x0 hx0).2.1.1 (sum_ge_mem (fun y hy => by obtain ⟨x, hx, rfl⟩ := List.mem_map.mp hy; have := (h x hx).2.1.1; omega) (List.mem_map_of_mem (f := fun x : DU => x.2.1) hx0))
  have t3 : 0 ≤ (xs.map fun x => x.2.2.1).sum := sum_ge0 fun y hy => by obtain ⟨x, hx, rfl⟩ := List.mem_map.mp hy; have := (h x hx).2.2.1.1; omega
  have t4 : mxD 0 (xs.map fun x => x.2.2.2.1) ≤ e := mxD_le le.1 fun y hy => by obtain ⟨x, hx, rfl⟩ := List.mem_map.mp hy; exact he x hx
  have t5 : 0 ≤ mxD 0 (xs.map fun x => x.2.2.2.1) := mxD_ge0 fun y hy => by obtain ⟨x, hx, rfl⟩ := List.mem_map.mp hy; have := (h x hx).2.2.2.1; omega
  have e1 : (rowD xs).1 = (xs.map fun x => x.1).sum := rfl
  have e2 : (rowD xs).2.1 = (xs.map fun x => x.2.1).sum := rfl
  have e3 : (rowD xs).2.2.1 = 1 + (xs.map fun x => x.2.2.1).sum := rfl
  have e4 : (rowD xs).2.2.2.1 = 1 + mxD 0 (xs.map fun x => x.2.2.2.1) := rfl
  unfold InD
  rw [e1, e2, e3, e4]
  generalize a * (xs.length : Int) = a1 at *
  generalize b * (xs.length : Int) = b1 at *
  generalize c * (xs.length : Int) = c1 at *
  refine ⟨⟨⟨?_, ?_⟩, ⟨?_, ?_⟩, ⟨?_, ?_⟩, ?_, ?_⟩, ?_, ?_, ?_, ?_⟩ <;> omega
theorem wordsD_few {ps : List (PT × DU)} (h : ∀ p ∈ ps, Due p.1 p.2) (hi : InD (rowD (ps.map (·.2)))) : (wordsD (ps.map (·.2))).length ≤ 900000 := by
  have z : ((wordsD (ps.map (·.2))).length : Int) ≤ 5 * ((ps.map (·.2)).map fun x => x.2.2.1).sum := by
    have z := due_wflat h
    rw [wflat_snd] at z; exact z
  have e3 : (rowD (ps.map (·.2))).2.2.1 = 1 + ((ps.map (·.2)).map fun x => x.2.2.1).sum := rfl
  have := hi.2.2.1.2
  omega

theorem leaf_is {c : Int} : Gives (m_leaf c) fun x => ∃ t, m_made_leaf x = .ok t ∧ Due t x ∧ x.2.2.1 = 1 ∧ x.2.2.2.1 = 1 ∧ x.1 ≤ 20 ∧ x.2.1 = 1 := by
  unfold m_leaf
  refine Ends.bnd fun n en => ?_
  refine Ends.bnd fun p ep => ?_
  refine Ends.bnd fun cs ec => ?_
  have hp : 0 ≤ p ∧ p ≤ 127 := by omega
  have hc : 1 ≤ cs ∧ cs ≤ 20 := by omega
  have hp' : p.natAbs < 2 ^ 100 := Nat.lt_of_le_of_lt (by omega : p.natAbs ≤ 2000) (by decide)
  have hc' : cs.natAbs < 2 ^ 100 := Nat.lt_of_le_of_lt (by omega : cs.natAbs ≤ 2000) (by decide)
  have z1 := num_short hp'; have z2 := num_short hc'; have e1 : ("." : Str).length = 1 := one_str rfl; have e2 : ("r." : Str).length = 2 := one_str rfl
  refine Ends.ite_ (fun c0 => ?_) (fun c0 => ?_)
  · refine Ends.req ⟨num_log hc', by omega⟩ ?_
    refine ⟨restT cs, ?_, due_rest ⟨hc.1, by omega⟩, rfl, rfl, hc.2, rfl⟩
    unfold m_made_leaf
    show req (m_Rest_init cs).isOk (.ok (m_Rest_init cs).get) = _
    rw [rest_ok (c := cs) ⟨hc.1, by omega⟩]
    exact req_pos trivial
  · refine Ends.req ⟨num_log hp', by omega, num_log hc', by rw [str_len_app]; omega⟩ ?_
    refine ⟨toneT p cs, ?_, due_tone hp ⟨hc.1, by omega⟩, rfl, rfl, hc.2, rfl⟩
    unfold m_made_leaf
    rw [if_neg (by show ¬(false = true); decide)]
    show req (m_Tone_init p cs).isOk (.ok (m_Tone_init p cs).get) = _
    rw [tone_ok (p := p) (c := cs) hp ⟨hc.1, by omega⟩]
    exact req_pos trivial
def wbarD (xs : List DU) : List Str := xs.flatMap fun x => ("|" : Str) :: x.2.2.2.2.2.2
theorem wbarD_at {xs : List DU} {x : DU} {i : Nat} (h : xs[i]? = some x) : wbarD (xs.take (i + 1)) = wbarD (xs.take i) ++ [("|" : Str)] ++ x.2.2.2.2.2.2 := by
  unfold wbarD; rw [take_at h, List.flatMap_append, List.flatMap_cons, List.flatMap_nil, List.append_nil, List.append_assoc]; rfl
theorem wbarD_take {xs : List DU} {i : Nat} : (wbarD (xs.take i)).length ≤ (wbarD xs).length := by
  conv => rhs; rw [← List.take_append_drop i xs]
  unfold wbarD; rw [List.flatMap_append, List.length_append]; omega
theorem beside_is {xs : List DU} (hl : xs.length ≤ 100000) (h0 : xs ≠ []) (hw : (wbarD xs).length ≤ 900000) : m_beside xs = .ok (besD xs) := by
  have hp : 0 < xs.length := List.length_pos_iff.mpr h0
  refine Gives.eq ?_
  unfold m_beside
  refine Ends.bnd fun w0 e0 => ?_
  refine Ends.for1 (fun i ws => ws = wbarD (xs.take i)) e0 (fun i x ws hx e2 k hk => ?_) fun ws e2 => ?_
  · have z := wbarD_take (xs := xs) (i := i + 1)
    rw [wbarD_at hx, List.length_append, List.length_append] at z
    have z' : (wbarD (xs.take i)).length + 1 + x.2.2.2.2.2.2.length ≤ (wbarD xs).length := z
    refine Ends.req ⟨by rw [e2]; show _ + 1 ≤ _; omega, by rw [e2, List.length_append]; show _ + 1 + _ ≤ _; omega⟩ ?_
    refine Ends.bnd fun w3 e3 => ?_
    refine hk _ ?_
    rw [e3, e2, wbarD_at hx]
  · rw [List.take_length] at e2
    refine Ends.req ⟨by omega, by rw [List.length_map]; exact hp⟩ ?_
    refine Ends.bnd fun l1 el => ?_
    refine Ends.req (by omega) ?_
    refine Ends.bnd fun v1 ev => ?_
    refine Ends.req (by omega) ?_
    refine Ends.bnd fun z1 ez => ?_
    rw [ends_is hl, cut_1, e2]
    have hd : ((wbarD xs).drop 1).length ≤ 900000 := by rw [List.length_drop]; omega
    refine Ends.req ⟨by omega, by rw [List.length_map]; exact hp, trivial, by show 1 + _ ≤ _; omega, by rw [List.length_append]; show 1 + _ + 1 ≤ _; omega⟩ ?_
    show (_, _, _, _, _, _, _) = _
    rw [el, ev, ez]; rfl
theorem besD_in {xs : List DU} (h0 : xs ≠ []) (h : ∀ x ∈ xs, InD x) (he : ∀ x ∈ xs, x.2.2.2.1 ≤ 11) (lb : (xs.map fun x => x.2.1).sum ≤ 900) (lc : (xs.map fun x => x.2.2.1).sum ≤ 1499) : InD (besD xs) := by
  obtain ⟨x0, hx0⟩ := List.exists_mem_of_ne_nil xs h0
  have t1 : 1 ≤ mxD 0 (xs.map fun x => x.1) := Int.le_trans (h x0 hx0).1.1 (mxD_ge (List.mem_map_of_mem (f := fun x : DU => x.1) hx0))
  have t1' : mxD 0 (xs.map fun x => x.1) ≤ 2000 := mxD_le (by decide) fun y hy => by obtain ⟨x, hx, rfl⟩ := List.mem_map.mp hy; exact (h x hx).1.2
  have t2 : 1 ≤ (xs.map fun x => x.2.1).sum := Int.le_trans (h x0 hx0).2.1.1 (sum_ge_mem (fun y hy => by obtain ⟨x, hx, rfl⟩ := List.mem_map.mp hy; have := (h x hx).2.1.1; omega) (List.mem_map_of_mem (f := fun x : DU => x.2.1) hx0))
  have t3 : 0 ≤ (xs.map fun x => x.2.2.1).sum := sum_ge0 fun y hy => by obtain ⟨x, hx, rfl⟩ := List.mem_map.mp hy; have := (h x hx).2.2.1.1; omega
  have t4 : mxD 0 (xs.map fun x => x.2.2.2.1) ≤ 11 := mxD_le (by decide) fun y hy => by obtain ⟨x, hx, rfl⟩ := List.mem_map.mp hy; exact he x hx
  have t5 : 0 ≤ mxD 0 (xs.map fun x => x.2.2.2.1) := mxD_ge0 fun y hy => by obtain ⟨x, hx, rfl⟩ := List.mem_map.mp hy; have := (h x hx).2.2.2.1; omega
  have e1 : (besD xs).1 = mxD 0 (xs.map fun x => x.1) := rfl
  have e2 : (besD xs).2.1 = (xs.map fun x => x.2.1).sum := rfl
  have e3 : (besD xs).2.2.1 = 1 + (xs.map fun x => x.2.2.1).sum := rfl
  have e4 : (besD xs).2.2.2.1 = 1 + mxD 0 (xs.map fun x => x.2.2.2.1) := rfl
  unfold InD
  rw [e1, e2, e3, e4]
  refine ⟨⟨?_, ?_⟩, ⟨?_, ?_⟩, ⟨?_, ?_⟩, ?_, ?_⟩ <;> omega
theorem good_is {ps : List (PT × DU)} {ts : List PT} {xs : List DU} (e1 : ts = ps.map (·.1)) (e2 : xs = ps.map (·.2)) (h : ∀ p ∈ ps, Due p.1 p.2) (h2 : 2 ≤ ps.length) (hl : ps.length ≤ 100000) (he : ∀ p ∈ ps, p.2.2.2.2.1 ≤ 11) (lb : (xs.map fun x => x.2.1).sum ≤ 900) (lc : (xs.map fun x => x.2.2.1).sum ≤ 1499) :
    ∃ t, m_good ts xs = .ok (some t) ∧ m_beside xs = .ok (besD xs) ∧ Due t (besD xs) := by
  subst e1 e2
  have h0 : ps.map (·.2) ≠ [] := fun z => by have := congrArg List.length z; rw [List.length_map, List.length_nil] at this; omega
  have hi : InD (besD (ps.map (·.2))) := besD_in h0 (fun x hx => by obtain ⟨p, hp, rfl⟩ := List.mem_map.mp hx; exact (h p hp).inD) (fun x hx => by obtain ⟨p, hp, rfl⟩ := List.mem_map.mp hx; exact he p hp) lb lc
  obtain ⟨t, et, hd⟩ := (due_bes h hl h2).1 hi
  have hw : (wbarD (ps.map (·.2))).length ≤ 900000 := by
    have z : ((wbarD (ps.map (·.2))).length : Int) ≤ 5 * ((ps.map (·.2)).map fun x => x.2.2.1).sum := by
      have z := due_wbar h
      rw [wbar_snd] at z; exact z
    omega
  have hr : m_beside (ps.map (·.2)) = .ok (besD (ps.map (·.2))) := beside_is (by rw [List.length_map]; exact hl) h0 hw
  have hw13 : m_words 13 t = .ok (besD (ps.map (·.2))).2.2.2.2.2.2 := hd.wd 13 (by have := hd.ok.2.2.2.2; have := hd.d; omega)
  refine ⟨t, Gives.eq ?_, hr, hd⟩
  unfold m_good
  rw [et]
  refine Ends.req trivial ?_
  refine Ends.bnd fun r er => ?_
  obtain rfl : r = t := er
  rw [hr]
  refine Ends.req trivial ?_
  refine Ends.bnd fun d ed => ?_
  obtain rfl : d = besD (ps.map (·.2)) := ed
  rw [hd.are]
  refine Ends.req trivial ?_
  rw [if_neg (by decide), hw13]
  refine Ends.req trivial ?_
  refine Ends.bnd fun h1 eh => ?_
  refine Ends.req trivial ?_
  rw [if_neg (by decide)]
  rfl
theorem refused_is {ts : List PT} (h : ts.length < 2) : m_refused ts = .ok true := by
  have e : m_Beside_init ts = .ex .noPart () := by
    unfold m_Beside_init
    rw [decide_eq_true (by omega), if_pos rfl]
  unfold m_refused
  rw [e, cal_ex rfl]
  show req _ _ = _
  rw [kinds_is]
  exact req_pos trivial
def LeafOk (x : DU) : Prop := ∃ t, m_made_leaf x = .ok t ∧ Due t x ∧ x.2.2.1 = 1 ∧ x.2.2.2.1 = 1 ∧ x.1 ≤ 20 ∧ x.2.1 = 1
def RowOk (i : Nat) (r : List DU) : Prop := r ≠ [] ∧ r.length ≤ i + 1 ∧ ∀ x ∈ r, LeafOk x
noncomputable def mkRow (r : List DU) : PT := (m_Row_init (r.map fun x => (m_made_leaf x).get)).get
theorem mkRow_is {i : Nat} {r : List DU} (h : RowOk i r) (hi : i ≤ 63) : (m_Row_init (r.map fun x => (m_made_leaf x).get)).isOk ∧ Due (mkRow r) (rowD r) ∧ m_row r = .ok (rowD r) ∧ (rowD r).2.1 ≤ 64 ∧ (rowD r).2.2.1 ≤ 65 ∧ (rowD r).2.2.2.1 ≤ 2 := by
  obtain ⟨h0, hn, hL⟩ := h
  let ps : List (PT × DU) := r.map fun x => ((m_made_leaf x).get, x)
  have hps : ∀ p ∈ ps, Due p.1 p.2 := fun p hp => by
    obtain ⟨x, hx, rfl⟩ := List.mem_map.mp hp
    obtain ⟨t, e, hd, _⟩ := hL x hx
    show Due (m_made_leaf x).get x
    rw [e]; exact hd
  have p1 : ps.map (·.1) = r.map fun x => (m_made_leaf x).get := by show (r.map _).map _ = _; rw [List.map_map]; rfl
  have p2 : ps.map (·.2) = r := by show (r.map _).map _ = _; rw [List.map_map]; exact List.map_id r
  have hmk := due_row hps (by show (r.map _).length ≤ _; rw [List.length_map]; omega)
  rw [p1, p2] at hmk
  have z := rowD_in (xs := r) h0 (fun x hx => by obtain ⟨t, _, hd, _⟩ := hL x hx; exact hd.inD) (a := 20) (b := 1) (c := 1) (e := 1) (fun x hx => by obtain ⟨_, _, _, _, _, q, _⟩ := hL x hx; exact q) (fun x hx => by obtain ⟨_, _, _, _, _, _, q⟩ := hL x hx; omega) (fun x hx => by obtain ⟨_, _, _, q, _⟩ := hL x hx; omega) (fun x hx => by obtain ⟨_, _, _, _, q, _⟩ := hL x hx; omega) (by omega) (by omega) (by omega) (by decide)
  obtain ⟨t, et, hd⟩ := hmk.1 z.1
  have hr := row_is (xs := r) (by omega) h0 (by have w := wordsD_few hps (by rw [p2]; exact z.1); rw [p2] at w; exact w)
  have hk : mkRow r = t := by unfold mkRow; rw [et]; rfl
  refine ⟨by rw [et]; trivial, by rw [hk]; exact hd, hr, ?_, ?_, ?_⟩
  · have := z.2.2.1; omega
  · have := z.2.2.2.1; omega
  · have := z.2.2.2.2; omega
theorem law_true (s : List Int) (hs : s.length ≤ 63) : m_law s = .ok true := by
  refine Gives.eq ?_
  have hcl := cutL_le s none (some 63)
  unfold m_law
  rw [cell_at_is (by decide)]
  refine Ends.req trivial ?_
  refine Ends.bnd fun many em => ?_
  have hm : 2 ≤ many ∧ many ≤ 6 := by rw [Res.get_ok] at em; omega
  refine Ends.req ⟨⟨by omega, by omega⟩, fun c _ => ⟨cmul_l (by decide), leaf_is.isOk⟩, by rw [show (rng 0 many.toNat).length = many.toNat by unfold rng; simp]; omega⟩ ?_
  refine Ends.bnd fun r1 er1 => ?_
  have l1 : r1.length = many.toNat := by rw [er1, List.length_map]; unfold rng; simp
  have k1 : ∀ r ∈ r1, RowOk 0 r := fun r hr => by
    rw [er1] at hr
    obtain ⟨c, _, rfl⟩ := List.mem_map.mp hr
    refine ⟨by simp, Nat.le_refl 1, fun x hx => ?_⟩
    rw [List.mem_singleton.mp hx]
    exact leaf_is.get
  refine Ends.for1 (fun i rs => rs.length = many.toNat ∧ ∀ r ∈ rs, RowOk i r) ⟨l1, k1⟩ (fun i c rs hx hI k hk => ?_) fun rs hI => ?_
  · obtain ⟨hl, hR⟩ := hI
    have hi : i < (cutL s none (some 63)).length := (List.getElem?_eq_some_iff.mp hx).1
    have hm1 := Int.emod_nonneg (c / 4) (b := many) (by omega)
    have hm2 := Int.emod_lt_of_pos (c / 4) (b := many) (by omega)
    have hb : -(rs.length : Int) ≤ c / 4 % many ∧ c / 4 % many < rs.length := ⟨by omega, by omega⟩
    refine Ends.req ⟨by omega, hb⟩ ?_
    have hg := hR _ (gI_mem hb)
    refine Ends.req ⟨leaf_is.isOk, by have := hg.2.1; omega⟩ ?_
    refine Ends.bnd fun rs2 e2 => ?_
    refine hk _ ⟨by rw [e2]; unfold setI; rw [List.length_set]; exact hl, fun r hr => ?_⟩
    rw [e2] at hr
    unfold setI at hr
    rcases List.mem_or_eq_of_mem_set hr with h | h
    · have := hR r h
      exact ⟨this.1, by have := this.2.1; omega, this.2.2⟩
    · rw [h]
      refine ⟨by simp, by rw [List.length_append]; have := hg.2.1; show _ + 1 ≤ _; omega, fun x hx => ?_⟩
      rcases List.mem_append.mp hx with hx | hx
      · exact hg.2.2 x hx
      · rw [List.mem_singleton.mp hx]; exact leaf_is.get
  · obtain ⟨hl, hR⟩ := hI
    have hR' : ∀ r ∈ rs, RowOk 63 r := fun r hr => by have := hR r hr; exact ⟨this.1, by have := this.2.1; omega, this.2.2⟩
    have hM := fun r hr => mkRow_is (hR' r hr) (Nat.le_refl _)
    refine Ends.req ⟨fun r hr => ⟨fun x hx => by obtain ⟨t, e, _⟩ := (hR' r hr).2.2 x hx; rw [e]; trivial, by have := (hR' r hr).2.1; omega, (hM r hr).1⟩, by omega⟩ ?_
    refine Ends.bnd fun p1 ep1 => ?_
    refine Ends.req ⟨fun r hr => by rw [(hM r hr).2.2.1]; trivial, by omega⟩ ?_
    refine Ends.bnd fun d1 ed1 => ?_
    obtain ⟨r0, rt, hrs⟩ : ∃ r0 rt, rs = r0 :: rt := List.exists_cons_of_length_pos (by omega)
    have g0 : gI rs 0 = r0 := by rw [hrs]; exact gI_hd
    have hr0 := hR' r0 (by rw [hrs]; exact List.mem_cons_self ..)
    have n0 : 0 < r0.length := List.length_pos_iff.mpr hr0.1
    have hb0 : -(r0.length : Int) ≤ -1 ∧ (-1 : Int) < r0.length := ⟨by omega, by omega⟩
    obtain ⟨t0, et0, hd0, z1, z2, z3, z4⟩ := hr0.2.2 _ (gI_mem hb0)
    have lp1 : p1.length = rs.length := by rw [ep1, List.length_map]
    have ld1 : d1.length = rs.length := by rw [ed1, List.length_map]
    rw [g0]
    refine Ends.req ⟨⟨by omega, by omega⟩, hb0, by rw [et0]; trivial, by omega, by omega⟩ ?_
    refine Ends.bnd fun p2 ep2 => ?_
    refine Ends.req ⟨⟨by omega, by omega⟩, hb0, by omega, by omega⟩ ?_
    refine Ends.bnd fun d2 ed2 => ?_
    let qs : List (PT × DU) := (t0, gI r0 (-1)) :: rt.map fun r => (mkRow r, rowD r)
    have ql : qs.length = rs.length := by rw [hrs]; show (rt.map _).length + 1 = rt.length + 1; rw [List.length_map]
    have q1 : p2 = qs.map (·.1) := by
      rw [ep2, ep1, hrs, et0]
      show t0 :: rt.map _ = t0 :: (rt.map _).map _
      rw [List.map_map]; rfl
    have q2 : d2 = qs.map (·.2) := by
      rw [ed2, ed1, hrs]
      show gI r0 (-1) :: rt.map _ = gI r0 (-1) :: (rt.map _).map _
      rw [List.map_map]
      congr 1
      refine List.map_congr_left fun r hr => ?_
      rw [(hM r (by rw [hrs]; exact List.mem_cons_of_mem _ hr)).2.2.1]; rfl
    have hall : ∀ q ∈ qs, Due q.1 q.2 ∧ q.2.2.1 ≤ 64 ∧ q.2.2.2.1 ≤ 65 ∧ q.2.2.2.2.1 ≤ 2 := fun q hq => by
      rcases List.mem_cons.mp hq with rfl | hq
      · exact ⟨hd0, by show (gI r0 (-1)).2.1 ≤ 64; omega, by show (gI r0 (-1)).2.2.1 ≤ 65; omega, by show (gI r0 (-1)).2.2.2.1 ≤ 2; omega⟩
      · obtain ⟨r, hr, rfl⟩ := List.mem_map.mp hq
        have z := hM r (by rw [hrs]; exact List.mem_cons_of_mem _ hr)
        exact ⟨z.2.1, z.2.2.2.1, z.2.2.2.2.1, z.2.2.2.2.2⟩
    have hd2 : ∀ x ∈ d2, x.2.1 ≤ 64 ∧ x.2.2.1 ≤ 65 := fun x hx => by
      rw [q2] at hx
      obtain ⟨q, hq, rfl⟩ := List.mem_map.mp hx
      exact ⟨(hall q hq).2.1, (hall q hq).2.2.1⟩
    have ld2 : d2.length = rs.length := by rw [q2, List.length_map]; exact ql
    have s1 : (d2.map fun x => x.2.1).sum ≤ 64 * d2.length := sum_le_len fun x hx => (hd2 x hx).1
    have s2 : (d2.map fun x => x.2.2.1).sum ≤ 65 * d2.length := sum_le_len fun x hx => (hd2 x hx).2
    have s3 : mxD 0 (d2.map fun x => x.2.2.2.1) ≤ 2 := mxD_le (by decide) fun y hy => by
      obtain ⟨x, hx, rfl⟩ := List.mem_map.mp hy
      rw [q2] at hx
      obtain ⟨q, hq, rfl⟩ := List.mem_map.mp hx
      exact (hall q hq).2.2.2
    obtain ⟨t, a1, a2, a3⟩ := good_is q1 q2 (fun p hp => (hall p hp).1) (by omega) (by omega) (fun p hp => by have := (hall p hp).2.2.2; omega) (Int.le_trans s1 (by omega)) (Int.le_trans s2 (by omega))
    rw [a1]
    refine Ends.req trivial ?_
    refine Ends.bnd fun fo ef => ?_
    obtain rfl : fo = some t := ef
    refine Ends.ite_ (fun z_ => absurd (show false = true from z_) Bool.false_ne_true) fun _ => ?_
    rw [a2]
    refine Ends.req trivial ?_
    refine Ends.bnd fun du edu => ?_
    obtain rfl : du = besD d2 := edu
    have lrt : rs.length = rt.length + 1 := congrArg List.length hrs
    have lp2 : p2.length = rs.length := by rw [q1, List.length_map]; exact ql
    obtain ⟨y, hy1, hy2, hy3⟩ : ∃ y ∈ qs, gI p2 1 = y.1 ∧ gI d2 1 = y.2 := by
      obtain ⟨r1', rt', hrt⟩ : ∃ r1 rt', rt = r1 :: rt' := List.exists_cons_of_length_pos (by
        have e : rs.length = rt.length + 1 := congrArg List.length hrs
        omega)
      refine ⟨(mkRow r1', rowD r1'), List.mem_cons_of_mem _ (List.mem_map.mpr ⟨r1', by rw [hrt]; exact List.mem_cons_self .., rfl⟩), ?_, ?_⟩
      · rw [q1]; show gI (t0 :: (rt.map _).map _) 1 = _
        rw [hrt]; have z := gI_nat (xs := (t0 :: (((r1' :: rt').map fun r => (mkRow r, rowD r)).map (·.1)) : List PT)) (i := 1) (by decide) (by simp [List.length_cons]; omega)
        exact (Option.some.inj z).symm
      · rw [q2]; show gI (gI r0 (-1) :: (rt.map _).map _) 1 = _
        rw [hrt]; have z := gI_nat (xs := (gI r0 (-1) :: (((r1' :: rt').map fun r => (mkRow r, rowD r)).map (·.2)) : List DU)) (i := 1) (by decide) (by simp [List.length_cons]; omega)
        exact (Option.some.inj z).symm
    have hya := hall y hy1
    have b1 : (besD d2).2.1 = (d2.map fun x => x.2.1).sum := rfl
    have b2 : (besD d2).2.2.1 = 1 + (d2.map fun x => x.2.2.1).sum := rfl
    have b3 : (besD d2).2.2.2.1 = 1 + mxD 0 (d2.map fun x => x.2.2.2.1) := rfl
    obtain ⟨t2, c1, _⟩ := good_is (ps := [(t, besD d2), y, (t, besD d2)]) (ts := [t, gI p2 1, t]) (xs := [besD d2, gI d2 1, besD d2]) (by rw [hy2]; rfl) (by rw [hy3]; rfl) (fun p hp => by
      simp only [List.mem_cons, List.mem_nil_iff, or_false] at hp
      rcases hp with rfl | rfl | rfl
      · exact a3
      · exact hya.1
      · exact a3) (show 2 ≤ 3 by decide) (show 3 ≤ 100000 by decide) (fun p hp => by
      simp only [List.mem_cons, List.mem_nil_iff, or_false] at hp
      rcases hp with rfl | rfl | rfl
      · show (besD d2).2.2.2.1 ≤ 11; omega
      · omega
      · show (besD d2).2.2.2.1 ≤ 11; omega) (by rw [hy3]; show (besD d2).2.1 + (y.2.2.1 + ((besD d2).2.1 + 0)) ≤ 900; omega) (by rw [hy3]; show (besD d2).2.2.1 + (y.2.2.2.1 + ((besD d2).2.2.1 + 0)) ≤ 1499; omega)
    refine Ends.req ⟨⟨by omega, by omega⟩, ⟨by omega, by omega⟩, by show (m_good [t, gI p2 1, t] [besD d2, gI d2 1, besD d2]).isOk; rw [c1]; trivial⟩ ?_
    refine Ends.bnd fun ag ea => ?_
    have ea' : ag = some t2 := by rw [ea]; show (m_good [t, gI p2 1, t] [besD d2, gI d2 1, besD d2]).get = _; rw [c1]; rfl
    subst ea'
    have f1 : m_refused ([] : List PT) = .ok true := refused_is (by decide)
    have f2 : m_refused [oG (some t)] = .ok true := refused_is (show 1 < 2 by decide)
    have f3 : m_refused (cutL p2 none (some 1)) = .ok true := refused_is (by rw [cut_to (by decide), List.length_take]; omega)
    rw [f1, f2, f3]
    refine Ends.req (fun _ => ⟨trivial, fun _ => ⟨trivial, fun _ => trivial⟩⟩) ?_
    refine Ends.ite_ (fun z_ => absurd (show false = true from z_) Bool.false_ne_true) fun _ => ?_
    show Ends (Y.req (m_are t (besD d2)).isOk (.ok (m_are t (besD d2)).get)) _ _
    rw [a3.are]
    exact Ends.req trivial rfl

def topS (i : Nat) : Stmt := PySem.Challenge.pw_pinbarrel_k11_side_by_side.main.body.getD i (.Pass ⟨0, 0, 0, 0⟩)
def clsB : Stmt → List Stmt
  | .ClassDef (body := b) .. => b
  | _ => []
abbrev s_Near_init : Stmt := (clsB (topS 4)).getD 0 (.Pass ⟨0, 0, 0, 0⟩)
theorem sc_Near_init : FnScope ["self", "one", "other"] ["self", "one", "other"] (defScope s_Near_init) := ⟨rfl, rfl, rfl, by decide +kernel, rfl, by decide +kernel, by decide +kernel⟩
abbrev s_NoSeam_init : Stmt := (clsB (topS 5)).getD 0 (.Pass ⟨0, 0, 0, 0⟩)
theorem sc_NoSeam_init : FnScope ["self", "start", "over"] ["self", "start", "over"] (defScope s_NoSeam_init) := ⟨rfl, rfl, rfl, by decide +kernel, rfl, by decide +kernel, by decide +kernel⟩
abbrev s_NoSense_init : Stmt := (clsB (topS 8)).getD 0 (.Pass ⟨0, 0, 0, 0⟩)
theorem sc_NoSense_init : FnScope ["self", "place"] ["self", "place"] (defScope s_NoSense_init) := ⟨rfl, rfl, rfl, by decide +kernel, rfl, by decide +kernel, by decide +kernel⟩
abbrev s_look_at : Stmt := topS 16
theorem sc_look_at : FnScope ["number", "least", "greatest"] ["number", "least", "greatest"] (defScope s_look_at) := ⟨rfl, rfl, rfl, by decide +kernel, rfl, by decide +kernel, by decide +kernel⟩
abbrev s_Part_cells : Stmt := (clsB (topS 17)).getD 1 (.Pass ⟨0, 0, 0, 0⟩)
theorem sc_Part_cells : FnScope ["self"] ["self"] (defScope s_Part_cells) := ⟨rfl, rfl, rfl, by decide +kernel, rfl, by decide +kernel, by decide +kernel⟩
abbrev s_Part_leaves : Stmt := (clsB (topS 17)).getD 2 (.Pass ⟨0, 0, 0, 0⟩)
theorem sc_Part_leaves : FnScope ["self"] ["self"] (defScope s_Part_leaves) := ⟨rfl, rfl, rfl, by decide +kernel, rfl, by decide +kernel, by decide +kernel⟩
abbrev s_Part_size : Stmt := (clsB (topS 17)).getD 3 (.Pass ⟨0, 0, 0, 0⟩)
theorem sc_Part_size : FnScope ["self"] ["self"] (defScope s_Part_size) := ⟨rfl, rfl, rfl, by decide +kernel, rfl, by decide +kernel, by decide +kernel⟩
abbrev s_Part_depth : Stmt := (clsB (topS 17)).getD 4 (.Pass ⟨0, 0, 0, 0⟩)
theorem sc_Part_depth : FnScope ["self"] ["self"] (defScope s_Part_depth) := ⟨rfl, rfl, rfl, by decide +kernel, rfl, by decide +kernel, by decide +kernel⟩
abbrev s_Part_lowest : Stmt := (clsB (topS 17)).getD 5 (.Pass ⟨0, 0, 0, 0⟩)
theorem sc_Part_lowest : FnScope ["self"] ["self"] (defScope s_Part_lowest) := ⟨rfl, rfl, rfl, by decide +kernel, rfl, by decide +kernel, by decide +kernel⟩
abbrev s_Part_highest : Stmt := (clsB (topS 17)).getD 6 (.Pass ⟨0, 0, 0, 0⟩)
theorem sc_Part_highest : FnScope ["self"] ["self"] (defScope s_Part_highest) := ⟨rfl, rfl, rfl, by decide +kernel, rfl, by decide +kernel, by decide +kernel⟩
abbrev s_Part_init : Stmt := (clsB (topS 17)).getD 0 (.Pass ⟨0, 0, 0, 0⟩)
theorem sc_Part_init : FnScope ["self", "inner", "long", "written", "part"] ["self", "inner", "long", "written"] (defScope s_Part_init) := ⟨rfl, rfl, rfl, by decide +kernel, rfl, by decide +kernel, by decide +kernel⟩
abbrev s_Tone_init : Stmt := (clsB (topS 18)).getD 0 (.Pass ⟨0, 0, 0, 0⟩)
theorem sc_Tone_init : FnScope ["self", "pitch", "cells"] ["self", "pitch", "cells"] (defScope s_Tone_init) := ⟨rfl, rfl, rfl, by decide +kernel, rfl, by decide +kernel, by decide +kernel⟩
abbrev s_Rest_init : Stmt := (clsB (topS 19)).getD 0 (.Pass ⟨0, 0, 0, 0⟩)
theorem sc_Rest_init : FnScope ["self", "cells"] ["self", "cells"] (defScope s_Rest_init) := ⟨rfl, rfl, rfl, by decide +kernel, rfl, by decide +kernel, by decide +kernel⟩
abbrev s_Row_init : Stmt := (clsB (topS 20)).getD 0 (.Pass ⟨0, 0, 0, 0⟩)
theorem sc_Row_init : FnScope ["self", "parts", "part"] ["self", "parts"] (defScope s_Row_init) := ⟨rfl, rfl, rfl, by decide +kernel, rfl, by decide +kernel, by decide +kernel⟩
abbrev s_Beside_init : Stmt := (clsB (topS 21)).getD 0 (.Pass ⟨0, 0, 0, 0⟩)
theorem sc_Beside_init : FnScope ["self", "parts", "longest", "part"] ["self", "parts"] (defScope s_Beside_init) := ⟨rfl, rfl, rfl, by decide +kernel, rfl, by decide +kernel, by decide +kernel⟩
abbrev s_Tone_words : Stmt := (clsB (topS 18)).getD 1 (.Pass ⟨0, 0, 0, 0⟩)
theorem sc_Tone_words : FnScope ["self"] ["self"] (defScope s_Tone_words) := ⟨rfl, rfl, rfl, by decide +kernel, rfl, by decide +kernel, by decide +kernel⟩
abbrev s_Rest_words : Stmt := (clsB (topS 19)).getD 1 (.Pass ⟨0, 0, 0, 0⟩)
theorem sc_Rest_words : FnScope ["self"] ["self"] (defScope s_Rest_words) := ⟨rfl, rfl, rfl, by decide +kernel, rfl, by decide +kernel, by decide +kernel⟩
abbrev s_Row_words : Stmt := (clsB (topS 20)).getD 1 (.Pass ⟨0, 0, 0, 0⟩)
theorem sc_Row_words : FnScope ["self", "found", "part"] ["self"] (defScope s_Row_words) := ⟨rfl, rfl, rfl, by decide +kernel, rfl, by decide +kernel, by decide +kernel⟩
abbrev s_Beside_words : Stmt := (clsB (topS 21)).getD 1 (.Pass ⟨0, 0, 0, 0⟩)
theorem sc_Beside_words : FnScope ["self", "found", "part"] ["self"] (defScope s_Beside_words) := ⟨rfl, rfl, rfl, by decide +kernel, rfl, by decide +kernel, by decide +kernel⟩
abbrev s_cell_at : Stmt := topS 23
theorem sc_cell_at : FnScope ["_law_script", "_law_k"] ["_law_script", "_law_k"] (defScope s_cell_at) := ⟨rfl, rfl, rfl, by decide +kernel, rfl, by decide +kernel, by decide +kernel⟩
abbrev s_whole : Stmt := topS 24
theorem sc_whole : FnScope ["_law_found"] ["_law_found"] (defScope s_whole) := ⟨rfl, rfl, rfl, by decide +kernel, rfl, by decide +kernel, by decide +kernel⟩
abbrev s_kinds : Stmt := topS 25
theorem sc_kinds : FnScope ["_law_e", "_law_some"] ["_law_e"] (defScope s_kinds) := ⟨rfl, rfl, rfl, by decide +kernel, rfl, by decide +kernel, by decide +kernel⟩
abbrev s_are : Stmt := topS 26
theorem sc_are : FnScope ["_law_part", "_law_due", "_law_found", "_law_ends_here", "_law_number", "_law_end", "_law_words", "_law_word"] ["_law_part", "_law_due"] (defScope s_are) := ⟨rfl, rfl, rfl, by decide +kernel, rfl, by decide +kernel, by decide +kernel⟩
abbrev s_leaf : Stmt := topS 27
theorem sc_leaf : FnScope ["_law_cell", "_law_number", "_law_pitch", "_law_cells"] ["_law_cell"] (defScope s_leaf) := ⟨rfl, rfl, rfl, by decide +kernel, rfl, by decide +kernel, by decide +kernel⟩
abbrev s_made_leaf : Stmt := topS 28
theorem sc_made_leaf : FnScope ["_law_leaf_here"] ["_law_leaf_here"] (defScope s_made_leaf) := ⟨rfl, rfl, rfl, by decide +kernel, rfl, by decide +kernel, by decide +kernel⟩
abbrev s_ends : Stmt := topS 29
theorem sc_ends : FnScope ["_law_some", "_law_lows", "_law_due", "_law_highs"] ["_law_some"] (defScope s_ends) := ⟨rfl, rfl, rfl, by decide +kernel, rfl, by decide +kernel, by decide +kernel⟩
abbrev s_row : Stmt := topS 30
theorem sc_row : FnScope ["_law_some", "_law_words", "_law_due", "_law_long", "_law_leaves", "_law_size"] ["_law_some"] (defScope s_row) := ⟨rfl, rfl, rfl, by decide +kernel, rfl, by decide +kernel, by decide +kernel⟩
abbrev s_beside : Stmt := topS 31
theorem sc_beside : FnScope ["_law_some", "_law_words", "_law_due", "_law_long", "_law_leaves", "_law_size"] ["_law_some"] (defScope s_beside) := ⟨rfl, rfl, rfl, by decide +kernel, rfl, by decide +kernel, by decide +kernel⟩
abbrev s_good : Stmt := topS 32
theorem sc_good : FnScope ["_law_parts", "_law_dues", "_law_handed", "_law_found", "_law_due"] ["_law_parts", "_law_dues"] (defScope s_good) := ⟨rfl, rfl, rfl, by decide +kernel, rfl, by decide +kernel, by decide +kernel⟩
abbrev s_refused : Stmt := topS 33
theorem sc_refused : FnScope ["_law_parts", "_law_refused_here", "_law_e"] ["_law_parts"] (defScope s_refused) := ⟨rfl, rfl, rfl, by decide +kernel, rfl, by decide +kernel, by decide +kernel⟩
abbrev s_law : Stmt := topS 34
theorem sc_law : FnScope ["_law_script", "_law_many", "_law_rows", "_law_k", "_law_cell", "_law_parts", "_law_leaf_here", "_law_row_here", "_law_dues", "_law_found", "_law_due", "_law_again"] ["_law_script"] (defScope s_law) := ⟨rfl, rfl, rfl, by decide +kernel, rfl, by decide +kernel, by decide +kernel⟩
/-- where the defs stand -/
structure Ad where
  c_WorksError : Addr
  c_NoPart : Addr
  c_NoText : Addr
  c_Near : Addr
  a_Near_init : Addr
  d_Near_init : FuncData
  c_NoSeam : Addr
  a_NoSeam_init : Addr
  d_NoSeam_init : FuncData
  c_NoBarrel : Addr
  c_NoName : Addr
  c_NoSense : Addr
  a_NoSense_init : Addr
  d_NoSense_init : FuncData
  c_NoRow : Addr
  c_Part : Addr
  c_Tone : Addr
  c_Rest : Addr
  c_Row : Addr
  c_Beside : Addr
  a_look_at : Addr
  d_look_at : FuncData
  a_Part_cells : Addr
  d_Part_cells : FuncData
  a_Part_leaves : Addr
  d_Part_leaves : FuncData
  a_Part_size : Addr
  d_Part_size : FuncData
  a_Part_depth : Addr
  d_Part_depth : FuncData
  a_Part_lowest : Addr
  d_Part_lowest : FuncData
  a_Part_highest : Addr
  d_Part_highest : FuncData
  a_Part_init : Addr
  d_Part_init : FuncData
  a_Tone_init : Addr
  d_Tone_init : FuncData
  a_Rest_init : Addr
  d_Rest_init : FuncData
  a_Row_init : Addr
  d_Row_init : FuncData
  a_Beside_init : Addr
  d_Beside_init : FuncData
  a_Tone_words : Addr
  d_Tone_words : FuncData
  a_Rest_words : Addr
  d_Rest_words : FuncData
  a_Row_words : Addr
  d_Row_words : FuncData
  a_Beside_words : Addr
  d_Beside_words : FuncData
  a_cell_at : Addr
  d_cell_at : FuncData
  a_whole : Addr
  d_whole : FuncData
  a_kinds : Addr
  d_kinds : FuncData
  a_are : Addr
  d_are : FuncData
  a_leaf : Addr
  d_leaf : FuncData
  a_made_leaf : Addr
  d_made_leaf : FuncData
  a_ends : Addr
  d_ends : FuncData
  a_row : Addr
  d_row : FuncData
  a_beside : Addr
  d_beside : FuncData
  a_good : Addr
  d_good : FuncData
  a_refused : Addr
  d_refused : FuncData
  a_law : Addr
  d_law : FuncData
def Ad.mw (ad : Ad) : PKind → Addr
  | .tone => ad.a_Tone_words
  | .rest => ad.a_Rest_words
  | .row => ad.a_Row_words
  | .rep => ad.a_Tone_words
  | .shift => ad.a_Tone_words
  | .stretch => ad.a_Tone_words
  | .beside => ad.a_Beside_words

def Ad.dw (ad : Ad) : PKind → FuncData
  | .tone => ad.d_Tone_words
  | .rest => ad.d_Rest_words
  | .row => ad.d_Row_words
  | .rep => ad.d_Tone_words
  | .shift => ad.d_Tone_words
  | .stretch => ad.d_Tone_words
  | .beside => ad.d_Beside_words

def Ad.xa (ad : Ad) : XA := ⟨ad.c_NoPart, ad.c_NoText, ad.c_Near, ad.c_NoSeam, ad.c_NoBarrel, ad.c_NoName, ad.c_NoSense, ad.c_NoRow⟩
def Ad.pc (ad : Ad) : PKind → Addr
  | .tone => ad.c_Tone
  | .rest => ad.c_Rest
  | .row => ad.c_Row
  | .rep => ad.c_Tone
  | .shift => ad.c_Tone
  | .stretch => ad.c_Tone
  | .beside => ad.c_Beside

structure Txt (K : PySem.W.Frag) (mg : Str → Option Value) (ad : Ad) : Prop where
  F_look_at : Fun K "look_at" "look_at" s_look_at ad.a_look_at ad.d_look_at
  g_look_at : mg "look_at" = some (.ref ad.a_look_at)
  b_look_at : Binds K ad.d_look_at ["number", "least", "greatest"] []
  F_Part_cells : Fun K "cells" "Part.cells" s_Part_cells ad.a_Part_cells ad.d_Part_cells
  b_Part_cells : Binds K ad.d_Part_cells ["self"] []
  F_Part_leaves : Fun K "leaves" "Part.leaves" s_Part_leaves ad.a_Part_leaves ad.d_Part_leaves
  b_Part_leaves : Binds K ad.d_Part_leaves ["self"] []
  F_Part_size : Fun K "size" "Part.size" s_Part_size ad.a_Part_size ad.d_Part_size
  b_Part_size : Binds K ad.d_Part_size ["self"] []
  F_Part_depth : Fun K "depth" "Part.depth" s_Part_depth ad.a_Part_depth ad.d_Part_depth
  b_Part_depth : Binds K ad.d_Part_depth ["self"] []
  F_Part_lowest : Fun K "lowest" "Part.lowest" s_Part_lowest ad.a_Part_lowest ad.d_Part_lowest
  b_Part_lowest : Binds K ad.d_Part_lowest ["self"] []
  F_Part_highest : Fun K "highest" "Part.highest" s_Part_highest ad.a_Part_highest ad.d_Part_highest
  b_Part_highest : Binds K ad.d_Part_highest ["self"] []
  F_Part_init : Fun K "__init__" "Part.__init__" s_Part_init ad.a_Part_init ad.d_Part_init
  b_Part_init : Binds K ad.d_Part_init ["self", "inner", "long", "written"] []
  F_Tone_init : Fun K "__init__" "Tone.__init__" s_Tone_init ad.a_Tone_init ad.d_Tone_init
  b_Tone_init : Binds K ad.d_Tone_init ["self", "pitch", "cells"] []
  F_Rest_init : Fun K "__init__" "Rest.__init__" s_Rest_init ad.a_Rest_init ad.d_Rest_init
  b_Rest_init : Binds K ad.d_Rest_init ["self", "cells"] []
  F_Row_init : Fun K "__init__" "Row.__init__" s_Row_init ad.a_Row_init ad.d_Row_init
  b_Row_init : Binds K ad.d_Row_init ["self", "parts"] []
  F_Beside_init : Fun K "__init__" "Beside.__init__" s_Beside_init ad.a_Beside_init ad.d_Beside_init
  b_Beside_init : Binds K ad.d_Beside_init ["self", "parts"] []
  F_Tone_words : Fun K "words" "Tone.words" s_Tone_words ad.a_Tone_words ad.d_Tone_words
  b_Tone_words : Binds K ad.d_Tone_words ["self"] []
  F_Rest_words : Fun K "words" "Rest.words" s_Rest_words ad.a_Rest_words ad.d_Rest_words
  b_Rest_words : Binds K ad.d_Rest_words ["self"] []
  F_Row_words : Fun K "words" "Row.words" s_Row_words ad.a_Row_words ad.d_Row_words
  b_Row_words : Binds K ad.d_Row_words ["self"] []
  F_Beside_words : Fun K "words" "Beside.words" s_Beside_words ad.a_Beside_words ad.d_Beside_words
  b_Beside_words : Binds K ad.d_Beside_words ["self"] []
  F_cell_at : Fun K "_law_cell_at" "_law_cell_at" s_cell_at ad.a_cell_at ad.d_cell_at
  g_cell_at : mg "_law_cell_at" = some (.ref ad.a_cell_at)
  b_cell_at : Binds K ad.d_cell_at ["_law_script", "_law_k"] []
  F_whole : Fun K "_law_whole" "_law_whole" s_whole ad.a_whole ad.d_whole
  g_whole : mg "_law_whole" = some (.ref ad.a_whole)
  b_whole : Binds K ad.d_whole ["_law_found"] []
  F_kinds : Fun K "_law_kinds" "_law_kinds" s_kinds ad.a_kinds ad.d_kinds
  g_kinds : mg "_law_kinds" = some (.ref ad.a_kinds)
  b_kinds : Binds K ad.d_kinds ["_law_e"] []
  F_are : Fun K "_law_are" "_law_are" s_are ad.a_are ad.d_are
  g_are : mg "_law_are" = some (.ref ad.a_are)
  b_are : Binds K ad.d_are ["_law_part", "_law_due"] []
  F_leaf : Fun K "_law_leaf" "_law_leaf" s_leaf ad.a_leaf ad.d_leaf
  g_leaf : mg "_law_leaf" = some (.ref ad.a_leaf)
  b_leaf : Binds K ad.d_leaf ["_law_cell"] []
  F_made_leaf : Fun K "_law_made_leaf" "_law_made_leaf" s_made_leaf ad.a_made_leaf ad.d_made_leaf
  g_made_leaf : mg "_law_made_leaf" = some (.ref ad.a_made_leaf)
  b_made_leaf : Binds K ad.d_made_leaf ["_law_leaf_here"] []
  F_ends : Fun K "_law_ends" "_law_ends" s_ends ad.a_ends ad.d_ends
  g_ends : mg "_law_ends" = some (.ref ad.a_ends)
  b_ends : Binds K ad.d_ends ["_law_some"] []
  F_row : Fun K "_law_row" "_law_row" s_row ad.a_row ad.d_row
  g_row : mg "_law_row" = some (.ref ad.a_row)
  b_row : Binds K ad.d_row ["_law_some"] []
  F_beside : Fun K "_law_beside" "_law_beside" s_beside ad.a_beside ad.d_beside
  g_beside : mg "_law_beside" = some (.ref ad.a_beside)
  b_beside : Binds K ad.d_beside ["_law_some"] []
  F_good : Fun K "_law_good" "_law_good" s_good ad.a_good ad.d_good
  g_good : mg "_law_good" = some (.ref ad.a_good)
  b_good : Binds K ad.d_good ["_law_parts", "_law_dues"] []
  F_refused : Fun K "_law_refused" "_law_refused" s_refused ad.a_refused ad.d_refused
  g_refused : mg "_law_refused" = some (.ref ad.a_refused)
  b_refused : Binds K ad.d_refused ["_law_parts"] []
  F_law : Fun K "law" "law" s_law ad.a_law ad.d_law
  g_law : mg "law" = some (.ref ad.a_law)
  b_law : Binds K ad.d_law ["_law_script"] []
  k_WorksError : mg "WorksError" = some (.ref ad.c_WorksError)
  B_WorksError : BaseC K ad.c_WorksError (.type "type")
  k_NoPart : mg "NoPart" = some (.ref ad.c_NoPart)
  k_NoText : mg "NoText" = some (.ref ad.c_NoText)
  k_Near : mg "Near" = some (.ref ad.c_Near)
  o_Near : OexC K ad.c_Near
  i_Near : PySem.W.findIn K (.ref ad.c_Near) "__init__" = some (some (.ref ad.a_Near_init))
  t_Near : PySem.W.typeIn K (.ref ad.a_Near_init) = some (.type "function")
  F_Near_init : Fun K "__init__" "Near.__init__" s_Near_init ad.a_Near_init ad.d_Near_init
  b_Near : Binds K ad.d_Near_init ["self", "one", "other"] []
  n_Near_one : PySem.W.findIn K (.ref ad.c_Near) "one" = some none
  n_Near_other : PySem.W.findIn K (.ref ad.c_Near) "other" = some none
  k_NoSeam : mg "NoSeam" = some (.ref ad.c_NoSeam)
  o_NoSeam : OexC K ad.c_NoSeam
  i_NoSeam : PySem.W.findIn K (.ref ad.c_NoSeam) "__init__" = some (some (.ref ad.a_NoSeam_init))
  t_NoSeam : PySem.W.typeIn K (.ref ad.a_NoSeam_init) = some (.type "function")
  F_NoSeam_init : Fun K "__init__" "NoSeam.__init__" s_NoSeam_init ad.a_NoSeam_init ad.d_NoSeam_init
  b_NoSeam : Binds K ad.d_NoSeam_init ["self", "start", "over"] []
  n_NoSeam_start : PySem.W.findIn K (.ref ad.c_NoSeam) "start" = some none
  n_NoSeam_over : PySem.W.findIn K (.ref ad.c_NoSeam) "over" = some none
  k_NoBarrel : mg "NoBarrel" = some (.ref ad.c_NoBarrel)
  k_NoName : mg "NoName" = some (.ref ad.c_NoName)
  k_NoSense : mg "NoSense" = some (.ref ad.c_NoSense)
  o_NoSense : OexC K ad.c_NoSense
  i_NoSense : PySem.W.findIn K (.ref ad.c_NoSense) "__init__" = some (some (.ref ad.a_NoSense_init))
  t_NoSense : PySem.W.typeIn K (.ref ad.a_NoSense_init) = some (.type "function")
  F_NoSense_init : Fun K "__init__" "NoSense.__init__" s_NoSense_init ad.a_NoSense_init ad.d_NoSense_init
  b_NoSense : Binds K ad.d_NoSense_init ["self", "place"] []
  n_NoSense_place : PySem.W.findIn K (.ref ad.c_NoSense) "place" = some none
  k_NoRow : mg "NoRow" = some (.ref ad.c_NoRow)
  xi_NoPart : PySem.W.excIn K ad.c_NoPart [.type "ValueError", .type "Exception", .type "BaseException", .type "object"] "ValueError.__new__" = true
  kq_NoPart : PySem.W.keepIn K (.ref ad.c_NoPart) = true
  rb_NoPart : PySem.W.subIn K (.ref ad.c_NoPart) (.type "BaseException") = some true
  rt_NoPart : PySem.W.typeIn K (.ref ad.c_NoPart) = some (.type "type")
  xc_NoPart : ExcC K ad.c_NoPart
  kt_NoPart_Near : PySem.W.kitOne K (.ref ad.c_NoPart) (.ref ad.c_Near) = some false
  kt_NoPart_NoBarrel : PySem.W.kitOne K (.ref ad.c_NoPart) (.ref ad.c_NoBarrel) = some false
  kt_NoPart_NoName : PySem.W.kitOne K (.ref ad.c_NoPart) (.ref ad.c_NoName) = some false
  kt_NoPart_NoRow : PySem.W.kitOne K (.ref ad.c_NoPart) (.ref ad.c_NoRow) = some false
  kt_NoPart_NoSeam : PySem.W.kitOne K (.ref ad.c_NoPart) (.ref ad.c_NoSeam) = some false
  kt_NoPart_NoSense : PySem.W.kitOne K (.ref ad.c_NoPart) (.ref ad.c_NoSense) = some false
  kt_NoPart_NoText : PySem.W.kitOne K (.ref ad.c_NoPart) (.ref ad.c_NoText) = some false
  kt_NoPart_ValueError : PySem.W.kitOne K (.ref ad.c_NoPart) (.type "ValueError") = some true
  kt_NoPart_WorksError : PySem.W.kitOne K (.ref ad.c_NoPart) (.ref ad.c_WorksError) = some true
  x_NoPart_NoPart : PySem.W.exmOne K (.ref ad.c_NoPart) (.ref ad.c_NoPart) = some true
  pk_Part : mg "Part" = some (.ref ad.c_Part)
  pk_Tone : mg "Tone" = some (.ref ad.c_Tone)
  pk_Rest : mg "Rest" = some (.ref ad.c_Rest)
  pk_Row : mg "Row" = some (.ref ad.c_Row)
  pk_Beside : mg "Beside" = some (.ref ad.c_Beside)
  PC : PCls K ad.pc
  me_cells : ∀ k, Meth K (ad.pc k) "cells" ad.a_Part_cells
  me_depth : ∀ k, Meth K (ad.pc k) "depth" ad.a_Part_depth
  me_highest : ∀ k, Meth K (ad.pc k) "highest" ad.a_Part_highest
  me_leaves : ∀ k, Meth K (ad.pc k) "leaves" ad.a_Part_leaves
  me_lowest : ∀ k, Meth K (ad.pc k) "lowest" ad.a_Part_lowest
  me_size : ∀ k, Meth K (ad.pc k) "size" ad.a_Part_size
  mk_Beside : Mk K ad.c_Beside ad.a_Beside_init
  mk_Rest : Mk K ad.c_Rest ad.a_Rest_init
  mk_Row : Mk K ad.c_Row ad.a_Row_init
  mk_Tone : Mk K ad.c_Tone ad.a_Tone_init
  mw_ : ∀ k, Meth K (ad.pc k) "words" (ad.mw k)
  bw_ : ∀ k, Binds K (ad.dw k) ["self"] []
  BF : BaseF K ad.c_Part (.type "type") "__init__" ad.a_Part_init
  ValueError_n : mg "ValueError" = none
  bool_n : mg "bool" = none
  int_n : mg "int" = none
  isinstance_n : mg "isinstance" = none
  len_n : mg "len" = none
  list_n : mg "list" = none
  max_n : mg "max" = none
  min_n : mg "min" = none
  range_n : mg "range" = none
  str_n : mg "str" = none
  sum_n : mg "sum" = none
  c_MOST_CELLS : ∃ t, mg "MOST_CELLS" = some (.int 2000 t)
  c_MOST_LEAVES : ∃ t, mg "MOST_LEAVES" = some (.int 900 t)
  c_MOST_SIZE : ∃ t, mg "MOST_SIZE" = some (.int 1500 t)
  c_MOST_DEPTH : ∃ t, mg "MOST_DEPTH" = some (.int 12 t)
  c_HIGHEST : ∃ t, mg "HIGHEST" = some (.int 127 t)
section
variable [Lams] {P : Program} {w : World} {K : PySem.W.Frag} {mg : Str → Option Value} {base : Heap} {ad : Ad}
theorem ok_Near_init (T : Txt K mg ad) : FnOk P w K mg base CX0 1 ad.a_Near_init ad.d_Near_init ["self", "one", "other"] (spInit K ad.c_Near ["one", "other"]) := by
  have len : ∀ ws : List V, ws.length = (["one", "other"] : List Str).length → ∃ v0 v1, ws = [v0, v1] := fun ws h => match ws, h with | [v0, v1], _ => ⟨v0, v1, rfl⟩
  refine ok_def T.F_Near_init sc_Near_init (fun vs H Q E h => ?_) (fun cdv A outer s H vs Q E hr h => ?_)
  · obtain ⟨a, ws, rfl, hl, _⟩ := h
    obtain ⟨v0, v1, rfl⟩ := len ws hl; rfl
  obtain ⟨a, ws, rfl, hl, hT, hH, kk⟩ := h
  obtain ⟨v0, v1, rfl⟩ := len ws hl
  show WSs _ _ _ [some (.ref a), some v0, some v1] _
  refine wss_cons (ws_of (ps_expr (pe_binit (pl := _) T.B_WorksError rfl T.k_WorksError (pa_cons (pe_var (i := 0) rfl (Or.inl rfl) (by decide) (by decide)) (pa_cons pe_str pa_nil rfl) rfl))) ⟨_, rfl, a, ad.c_Near, [.str _], rfl, by simp, hT, hH, ?_⟩)
  refine wss_cons (ws_of (ps_ost (pe_var (i := 0) rfl (Or.inl rfl) (by decide) (by decide)) (pe_var (i := 1) rfl (Or.inl rfl) (by decide) (by decide))) ⟨_, rfl, _, rfl, a, ad.c_Near, rfl, hT, T.n_Near_one, .inl ⟨hH, fun dx hd hda => ?_⟩⟩)
  refine wss_cons (ws_of (ps_ost (pe_var (i := 0) rfl (Or.inl rfl) (by decide) (by decide)) (pe_var (i := 2) rfl (Or.inl rfl) (by decide) (by decide))) ⟨_, rfl, _, rfl, a, ad.c_Near, rfl, hT, T.n_Near_other, .inr ⟨dx, _, upd_same, (upd_ne hda).trans upd_same, by simp, ?_⟩⟩)
  exact wss_nil (kk _ dx hd hda ((upd_ne hda.symm).trans upd_same) upd_same fun b h1 h2 => (upd_ne h2).trans ((upd_ne h1).trans (upd_ne h2)))
theorem ok_NoSeam_init (T : Txt K mg ad) : FnOk P w K mg base CX0 1 ad.a_NoSeam_init ad.d_NoSeam_init ["self", "start", "over"] (spInit K ad.c_NoSeam ["start", "over"]) := by
  have len : ∀ ws : List V, ws.length = (["start", "over"] : List Str).length → ∃ v0 v1, ws = [v0, v1] := fun ws h => match ws, h with | [v0, v1], _ => ⟨v0, v1, rfl⟩
  refine ok_def T.F_NoSeam_init sc_NoSeam_init (fun vs H Q E h => ?_) (fun cdv A outer s H vs Q E hr h => ?_)
  · obtain ⟨a, ws, rfl, hl, _⟩ := h
    obtain ⟨v0, v1, rfl⟩ := len ws hl; rfl
  obtain ⟨a, ws, rfl, hl, hT, hH, kk⟩ := h
  obtain ⟨v0, v1, rfl⟩ := len ws hl
  show WSs _ _ _ [some (.ref a), some v0, some v1] _
  refine wss_cons (ws_of (ps_expr (pe_binit (pl := _) T.B_WorksError rfl T.k_WorksError (pa_cons (pe_var (i := 0) rfl (Or.inl rfl) (by decide) (by decide)) (pa_cons pe_str pa_nil rfl) rfl))) ⟨_, rfl, a, ad.c_NoSeam, [.str _], rfl, by simp, hT, hH, ?_⟩)
  refine wss_cons (ws_of (ps_ost (pe_var (i := 0) rfl (Or.inl rfl) (by decide) (by decide)) (pe_var (i := 1) rfl (Or.inl rfl) (by decide) (by decide))) ⟨_, rfl, _, rfl, a, ad.c_NoSeam, rfl, hT, T.n_NoSeam_start, .inl ⟨hH, fun dx hd hda => ?_⟩⟩)
  refine wss_cons (ws_of (ps_ost (pe_var (i := 0) rfl (Or.inl rfl) (by decide) (by decide)) (pe_var (i := 2) rfl (Or.inl rfl) (by decide) (by decide))) ⟨_, rfl, _, rfl, a, ad.c_NoSeam, rfl, hT, T.n_NoSeam_over, .inr ⟨dx, _, upd_same, (upd_ne hda).trans upd_same, by simp, ?_⟩⟩)
  exact wss_nil (kk _ dx hd hda ((upd_ne hda.symm).trans upd_same) upd_same fun b h1 h2 => (upd_ne h2).trans ((upd_ne h1).trans (upd_ne h2)))
theorem ok_NoSense_init (T : Txt K mg ad) : FnOk P w K mg base CX0 1 ad.a_NoSense_init ad.d_NoSense_init ["self", "place"] (spInit K ad.c_NoSense ["place"]) := by
  have len : ∀ ws : List V, ws.length = (["place"] : List Str).length → ∃ v0, ws = [v0] := fun ws h => match ws, h with | [v0], _ => ⟨v0, rfl⟩
  refine ok_def T.F_NoSense_init sc_NoSense_init (fun vs H Q E h => ?_) (fun cdv A outer s H vs Q E hr h => ?_)
  · obtain ⟨a, ws, rfl, hl, _⟩ := h
    obtain ⟨v0, rfl⟩ := len ws hl; rfl
  obtain ⟨a, ws, rfl, hl, hT, hH, kk⟩ := h
  obtain ⟨v0, rfl⟩ := len ws hl
  show WSs _ _ _ [some (.ref a), some v0] _
  refine wss_cons (ws_of (ps_expr (pe_binit (pl := _) T.B_WorksError rfl T.k_WorksError (pa_cons (pe_var (i := 0) rfl (Or.inl rfl) (by decide) (by decide)) (pa_cons pe_str pa_nil rfl) rfl))) ⟨_, rfl, a, ad.c_NoSense, [.str _], rfl, by simp, hT, hH, ?_⟩)
  refine wss_cons (ws_of (ps_ost (pe_var (i := 0) rfl (Or.inl rfl) (by decide) (by decide)) (pe_var (i := 1) rfl (Or.inl rfl) (by decide) (by decide))) ⟨_, rfl, _, rfl, a, ad.c_NoSense, rfl, hT, T.n_NoSense_place, .inl ⟨hH, fun dx hd hda => ?_⟩⟩)
  exact wss_nil (kk _ dx hd hda upd_same ((upd_ne hda).trans upd_same) fun b h1 h2 => (upd_ne h1).trans (upd_ne h2))
theorem ok_look_at (T : Txt K mg ad) : FnOk P w K mg base (L2.CX P w) 1 ad.a_look_at ad.d_look_at ["number", "least", "greatest"] (FSpVX ad.xa (α := Int × Int × Int × Unit) (ac iR (ac iR (ac iR an))) (fun x => m_look_at x.1 x.2.1 x.2.2.1) nR) := by
  have nd : List.Nodup (α := Str) ["number", "least", "greatest"] := sc_look_at.nd
  refine ok_defX T.F_look_at sc_look_at (fun vs H Q E h => ?_) (fun cdv A outer s H vs Q E hr h tk => ?_)
  · obtain ⟨F, M, x, ⟨_, _, rfl, _, ⟨_, _, rfl, _, ⟨_, _, rfl, _, rfl⟩⟩⟩, _⟩ := h; rfl
  obtain ⟨F, M, ⟨number, least, greatest, _⟩, ⟨v0, us0, rfl, hp0, ⟨v1, us1, rfl, hp1, ⟨v2, us2, rfl, hp2, rfl⟩⟩⟩, hb, w, kk, kx⟩ := h
  obtain ⟨r, hr0⟩ : ∃ r, m_look_at number least greatest = r := ⟨_, rfl⟩
  replace hb : r ≠ .bad := by rw [← hr0]; exact hb
  replace kk : ∀ F2 H2 v y, Same F F2 → Own F2 M H2 → r = .ok y → nR F2 v y → Q v H2 := fun F2 H2 v y a b c e => kk F2 H2 v y a b (hr0.trans c) e
  replace kx : ∀ F2 H2 c d e, Same F F2 → Own F2 M H2 → r = .ex e () → exR ad.xa e F2 c d → E c d H2 := fun F2 H2 c d e a b h => kx F2 H2 c d e a b (hr0.trans h)
  have hm := hr0; unfold m_look_at at hm
  have sF : Same F F := Same.refl _
  have sh := SH.nil w
  have hq0 : iR F v0 number := hp0
  cases (show v0 = V.int number from hq0)
  have hq1 : iR F v1 least := hp1
  cases (show v1 = V.int least from hq1)
  have hq2 : iR F v2 greatest := hp2
  cases (show v2 = V.int greatest from hq2)
  show WSs _ _ _ [some (.int number), some (.int least), some (.int greatest)] _
  refine ss_if (bx_l (bl_or (bx_lt (ev_var (r := iR) 0 rfl rfl) (ev_var (r := iR) 1 rfl rfl)) fun g1 => (bl_one_or (bx_gt (ev_var (r := iR) 0 rfl rfl) (ev_var (r := iR) 2 rfl rfl))))) sh.w (fun c1 H_ w => ?_) (fun c1 H_ w => ?_)
  · replace hm := ite_t hm c1; replace sh := sh.h w
    refine ss_raise rfl tk (pmk_own PySem.F.excBase_ValueError T.xi_NoPart T.k_NoPart T.kq_NoPart (raises_own T.rb_NoPart T.rt_NoPart) rfl) ?_
    exact kx _ _ _ _ _ sF sh.less hm.symm ⟨rfl, rfl⟩
  · replace hm := ite_f hm c1; replace sh := sh.h w
    refine ss_nil ?_
    show WSs _ _ _ [some (.int number), some (.int least), some (.int greatest)] _
    refine ss_nil ?_
    exact kk _ _ _ _ sF sh.less hm.symm rfl
theorem ok_Part_cells (T : Txt K mg ad) : FnOk P w K mg base CX0 1 ad.a_Part_cells ad.d_Part_cells ["self"] (FSpV (α := PT × Unit) (ac (pR ad.pc) an) (fun x => m_Part_cells x.1) iR) := by
  have nd : List.Nodup (α := Str) ["self"] := sc_Part_cells.nd
  refine ok_def T.F_Part_cells sc_Part_cells (fun vs H Q E h => ?_) (fun cdv A outer s H vs Q E hr h => ?_)
  · obtain ⟨F, M, x, ⟨_, _, rfl, _, rfl⟩, _⟩ := h; rfl
  obtain ⟨F, M, ⟨self, _⟩, ⟨v0, us0, rfl, hp0, rfl⟩, hb, w, kk⟩ := h
  obtain ⟨r, hr0⟩ : ∃ r, m_Part_cells self = r := ⟨_, rfl⟩
  replace hb : r ≠ .bad := by rw [← hr0]; exact hb
  replace kk : ∀ F2 H2 v y, Same F F2 → Own F2 M H2 → r = .ok y → iR F2 v y → Q v H2 := fun F2 H2 v y a b c e => kk F2 H2 v y a b (hr0.trans c) e
  have hm := hr0; unfold m_Part_cells at hm
  have sF : Same F F := Same.refl _
  have sh := SH.nil w
  have hq0 : (pR ad.pc) F v0 self := hp0
  have h_self := hq0
  show WSs _ _ _ [some v0] _
  exact ss_ret (ev_long T.PC (ev_var (r := (pR ad.pc)) 0 rfl h_self)) sh.w (fun F1 H_ v_ s1 w hv_ => kk _ _ _ _ (sF.trans s1) (sh.up s1 w).less hm.symm hv_)
theorem ok_Part_leaves (T : Txt K mg ad) : FnOk P w K mg base CX0 1 ad.a_Part_leaves ad.d_Part_leaves ["self"] (FSpV (α := PT × Unit) (ac (pR ad.pc) an) (fun x => m_Part_leaves x.1) iR) := by
  have nd : List.Nodup (α := Str) ["self"] := sc_Part_leaves.nd
  refine ok_def T.F_Part_leaves sc_Part_leaves (fun vs H Q E h => ?_) (fun cdv A outer s H vs Q E hr h => ?_)
  · obtain ⟨F, M, x, ⟨_, _, rfl, _, rfl⟩, _⟩ := h; rfl
  obtain ⟨F, M, ⟨self, _⟩, ⟨v0, us0, rfl, hp0, rfl⟩, hb, w, kk⟩ := h
  obtain ⟨r, hr0⟩ : ∃ r, m_Part_leaves self = r := ⟨_, rfl⟩
  replace hb : r ≠ .bad := by rw [← hr0]; exact hb
  replace kk : ∀ F2 H2 v y, Same F F2 → Own F2 M H2 → r = .ok y → iR F2 v y → Q v H2 := fun F2 H2 v y a b c e => kk F2 H2 v y a b (hr0.trans c) e
  have hm := hr0; unfold m_Part_leaves at hm
  have sF : Same F F := Same.refl _
  have sh := SH.nil w
  have hq0 : (pR ad.pc) F v0 self := hp0
  have h_self := hq0
  show WSs _ _ _ [some v0] _
  exact ss_ret (ev_written T.PC (ev_var (r := (pR ad.pc)) 0 rfl h_self)) sh.w (fun F1 H_ v_ s1 w hv_ => kk _ _ _ _ (sF.trans s1) (sh.up s1 w).less hm.symm hv_)
theorem ok_Part_size (T : Txt K mg ad) : FnOk P w K mg base CX0 1 ad.a_Part_size ad.d_Part_size ["self"] (FSpV (α := PT × Unit) (ac (pR ad.pc) an) (fun x => m_Part_size x.1) iR) := by
  have nd : List.Nodup (α := Str) ["self"] := sc_Part_size.nd
  refine ok_def T.F_Part_size sc_Part_size (fun vs H Q E h => ?_) (fun cdv A outer s H vs Q E hr h => ?_)
  · obtain ⟨F, M, x, ⟨_, _, rfl, _, rfl⟩, _⟩ := h; rfl
  obtain ⟨F, M, ⟨self, _⟩, ⟨v0, us0, rfl, hp0, rfl⟩, hb, w, kk⟩ := h
  obtain ⟨r, hr0⟩ : ∃ r, m_Part_size self = r := ⟨_, rfl⟩
  replace hb : r ≠ .bad := by rw [← hr0]; exact hb
  replace kk : ∀ F2 H2 v y, Same F F2 → Own F2 M H2 → r = .ok y → iR F2 v y → Q v H2 := fun F2 H2 v y a b c e => kk F2 H2 v y a b (hr0.trans c) e
  have hm := hr0; unfold m_Part_size at hm
  have sF : Same F F := Same.refl _
  have sh := SH.nil w
  have hq0 : (pR ad.pc) F v0 self := hp0
  have h_self := hq0
  show WSs _ _ _ [some v0] _
  exact ss_ret (ev_held T.PC (ev_var (r := (pR ad.pc)) 0 rfl h_self)) sh.w (fun F1 H_ v_ s1 w hv_ => kk _ _ _ _ (sF.trans s1) (sh.up s1 w).less hm.symm hv_)
theorem ok_Part_depth (T : Txt K mg ad) : FnOk P w K mg base CX0 1 ad.a_Part_depth ad.d_Part_depth ["self"] (FSpV (α := PT × Unit) (ac (pR ad.pc) an) (fun x => m_Part_depth x.1) iR) := by
  have nd : List.Nodup (α := Str) ["self"] := sc_Part_depth.nd
  refine ok_def T.F_Part_depth sc_Part_depth (fun vs H Q E h => ?_) (fun cdv A outer s H vs Q E hr h => ?_)
  · obtain ⟨F, M, x, ⟨_, _, rfl, _, rfl⟩, _⟩ := h; rfl
  obtain ⟨F, M, ⟨self, _⟩, ⟨v0, us0, rfl, hp0, rfl⟩, hb, w, kk⟩ := h
  obtain ⟨r, hr0⟩ : ∃ r, m_Part_depth self = r := ⟨_, rfl⟩
  replace hb : r ≠ .bad := by rw [← hr0]; exact hb
  replace kk : ∀ F2 H2 v y, Same F F2 → Own F2 M H2 → r = .ok y → iR F2 v y → Q v H2 := fun F2 H2 v y a b c e => kk F2 H2 v y a b (hr0.trans c) e
  have hm := hr0; unfold m_Part_depth at hm
  have sF : Same F F := Same.refl _
  have sh := SH.nil w
  have hq0 : (pR ad.pc) F v0 self := hp0
  have h_self := hq0
  show WSs _ _ _ [some v0] _
  exact ss_ret (ev_deep T.PC (ev_var (r := (pR ad.pc)) 0 rfl h_self)) sh.w (fun F1 H_ v_ s1 w hv_ => kk _ _ _ _ (sF.trans s1) (sh.up s1 w).less hm.symm hv_)
theorem ok_Part_lowest (T : Txt K mg ad) : FnOk P w K mg base CX0 1 ad.a_Part_lowest ad.d_Part_lowest ["self"] (FSpV (α := PT × Unit) (ac (pR ad.pc) an) (fun x => m_Part_lowest x.1) (oR iR)) := by
  have nd : List.Nodup (α := Str) ["self"] := sc_Part_lowest.nd
  refine ok_def T.F_Part_lowest sc_Part_lowest (fun vs H Q E h => ?_) (fun cdv A outer s H vs Q E hr h => ?_)
  · obtain ⟨F, M, x, ⟨_, _, rfl, _, rfl⟩, _⟩ := h; rfl
  obtain ⟨F, M, ⟨self, _⟩, ⟨v0, us0, rfl, hp0, rfl⟩, hb, w, kk⟩ := h
  obtain ⟨r, hr0⟩ : ∃ r, m_Part_lowest self = r := ⟨_, rfl⟩
  replace hb : r ≠ .bad := by rw [← hr0]; exact hb
  replace kk : ∀ F2 H2 v y, Same F F2 → Own F2 M H2 → r = .ok y → (oR iR) F2 v y → Q v H2 := fun F2 H2 v y a b c e => kk F2 H2 v y a b (hr0.trans c) e
  have hm := hr0; unfold m_Part_lowest at hm
  have sF : Same F F := Same.refl _
  have sh := SH.nil w
  have hq0 : (pR ad.pc) F v0 self := hp0
  have h_self := hq0
  show WSs _ _ _ [some v0] _
  exact ss_ret (ev_low T.PC (ev_var (r := (pR ad.pc)) 0 rfl h_self)) sh.w (fun F1 H_ v_ s1 w hv_ => kk _ _ _ _ (sF.trans s1) (sh.up s1 w).less hm.symm hv_)
theorem ok_Part_highest (T : Txt K mg ad) : FnOk P w K mg base CX0 1 ad.a_Part_highest ad.d_Part_highest ["self"] (FSpV (α := PT × Unit) (ac (pR ad.pc) an) (fun x => m_Part_highest x.1) (oR iR)) := by
  have nd : List.Nodup (α := Str) ["self"] := sc_Part_highest.nd
  refine ok_def T.F_Part_highest sc_Part_highest (fun vs H Q E h => ?_) (fun cdv A outer s H vs Q E hr h => ?_)
  · obtain ⟨F, M, x, ⟨_, _, rfl, _, rfl⟩, _⟩ := h; rfl
  obtain ⟨F, M, ⟨self, _⟩, ⟨v0, us0, rfl, hp0, rfl⟩, hb, w, kk⟩ := h
  obtain ⟨r, hr0⟩ : ∃ r, m_Part_highest self = r := ⟨_, rfl⟩
  replace hb : r ≠ .bad := by rw [← hr0]; exact hb
  replace kk : ∀ F2 H2 v y, Same F F2 → Own F2 M H2 → r = .ok y → (oR iR) F2 v y → Q v H2 := fun F2 H2 v y a b c e => kk F2 H2 v y a b (hr0.trans c) e
  have hm := hr0; unfold m_Part_highest at hm
  have sF : Same F F := Same.refl _
  have sh := SH.nil w
  have hq0 : (pR ad.pc) F v0 self := hp0
  have h_self := hq0
  show WSs _ _ _ [some v0] _
  exact ss_ret (ev_high T.PC (ev_var (r := (pR ad.pc)) 0 rfl h_self)) sh.w (fun F1 H_ v_ s1 w hv_ => kk _ _ _ _ (sF.trans s1) (sh.up s1 w).less hm.symm hv_)
theorem ok_Part_init (T : Txt K mg ad) : FnOk P w K mg base (L2.CX P w) 2 ad.a_Part_init ad.d_Part_init ["self", "inner", "long", "written"] (PSpB ad.xa ad.pc (fun x => m_Part_init x.1 x.2.1 x.2.2.1)) := by
  have nd : List.Nodup (α := Str) ["self", "inner", "long", "written", "part"] := sc_Part_init.nd
  refine ok_defX T.F_Part_init sc_Part_init (fun vs H Q E h => ?_) (fun cdv A outer s H vs Q E hr h tk => ?_)
  · obtain ⟨F, M, C, x, dx, us, a, rfl, ⟨_, _, rfl, _, ⟨_, _, rfl, _, ⟨_, _, rfl, _, rfl⟩⟩⟩, _⟩ := h; rfl
  obtain ⟨F, M, sC, sx, sd, us_, ⟨inner, long, written, _⟩, rfl, ⟨v0, us0, rfl, hp0, ⟨v1, us1, rfl, hp1, ⟨v2, us2, rfl, hp2, rfl⟩⟩⟩, hb, ⟨kk_, rfl⟩, ne_s, nx, nd_s, w, kk, kx⟩ := h
  obtain ⟨r, hr0⟩ : ∃ r, m_Part_init inner long written = r := ⟨_, rfl⟩
  replace hb : r ≠ .bad := by rw [← hr0]; exact hb
  replace kk : ∀ F2 H2 fs me l vs, Same F F2 → Own F2 (upd (upd M sd (.own sx)) sx (.ins (ad.pc kk_) sd fs)) H2 → r = .ok me → F2 l = some (.lst vs) → A2 (pR ad.pc F2) vs inner → fs = pflds .row 0 l me → Q .non H2 := fun F2 H2 fs me l vs a b c d e g => kk F2 H2 fs a b ⟨me, l, vs, hr0.trans c, d, e, g⟩
  have kx0 : ∀ F2 H2 c d e, Same F F2 → Own F2 M H2 → r = .ex e () → exR ad.xa e F2 c d → E c d H2 := fun F2 H2 c d e a b h q => kx F2 H2 c d a b ⟨e, hr0.trans h, q⟩
  replace kx : ∀ F2 H2 c d e {fs : List (Str × V)}, Same F F2 → Own F2 (upd (upd M sd (.own sx)) sx (.ins (ad.pc kk_) sd fs)) H2 → r = .ex e () → exR ad.xa e F2 c d → E c d H2 := fun F2 H2 c d e fs a b h q => kx0 F2 H2 c d e a (b.lessM (same_self nx nd_s ne_s)) h q
  have hm := hr0; unfold m_Part_init at hm
  have sF : Same F F := Same.refl _
  have sh := SH.nil w
  have hq0 : (lR (pR ad.pc)) F v0 inner := hp0
  have h_inner := hq0
  have hq1 : iR F v1 long := hp1
  cases (show v1 = V.int long from hq1)
  have hq2 : iR F v2 written := hp2
  cases (show v2 = V.int written from hq2)
  show WSs _ _ _ [some (.ref sx), some v0, some (.int long), some (.int written), none] _
  refine ss_sfld (Φ := fun F v => (lR (pR ad.pc)) F v inner) 0 rfl (T.PC.c _) (T.PC.n _ _ (by decide)) upd_same (ev_var (r := (lR (pR ad.pc))) 1 rfl h_inner) sh.w (by simp) (fun F1 M_ H_ v1 s1 eM_ w (hv1 : (lR (pR ad.pc)) F1 v1 inner) => ?_)
  replace sF := sF.trans s1
  replace h_inner := Mono.mono s1 h_inner
  subst eM_
  replace w : Own F1 (upd (upd M sd (.own sx)) sx (.ins (ad.pc kk_) sd [("inner", v1)])) H_ := w.cast (upd_upd.trans rfl)
  clear sh; have sh := SH.nil w
  show WSs _ _ _ [some (.ref sx), some v0, some (.int long), some (.int written), none] _
  refine ss_sfld (Φ := fun F v => iR F v long) 0 rfl (T.PC.c _) (T.PC.n _ _ (by decide)) upd_same (ev_var (r := iR) 2 rfl rfl) sh.w (by simp) (fun F2 M_ H_ v2 s2 eM_ w (hv2 : iR F2 v2 long) => ?_)
  replace sF := sF.trans s2
  replace h_inner := Mono.mono s2 h_inner
  replace hv1 := Mono.mono s2 hv1
  cases (show v2 = V.int long from hv2)
  subst eM_
  replace w : Own F2 (upd (upd M sd (.own sx)) sx (.ins (ad.pc kk_) sd [("inner", v1), ("long", .int long)])) H_ := w.cast (upd_upd.trans rfl)
  clear sh; have sh := SH.nil w
  show WSs _ _ _ [some (.ref sx), some v0, some (.int long), some (.int written), none] _
  refine ss_sfld (Φ := fun F v => iR F v written) 0 rfl (T.PC.c _) (T.PC.n _ _ (by decide)) upd_same (ev_var (r := iR) 3 rfl rfl) sh.w (by simp) (fun F3 M_ H_ v3 s3 eM_ w (hv3 : iR F3 v3 written) => ?_)
  replace sF := sF.trans s3
  replace h_inner := Mono.mono s3 h_inner
  replace hv1 := Mono.mono s3 hv1
  cases (show v3 = V.int written from hv3)
  subst eM_
  replace w : Own F3 (upd (upd M sd (.own sx)) sx (.ins (ad.pc kk_) sd [("inner", v1), ("long", .int long), ("written", .int written)])) H_ := w.cast (upd_upd.trans rfl)
  clear sh; have sh := SH.nil w
  show WSs _ _ _ [some (.ref sx), some v0, some (.int long), some (.int written), none] _
  obtain ⟨hd1, hm⟩ := req_of hb hm
  obtain ⟨held1, e_held1, hm⟩ := bnd_of hm
  refine ss_sfld (Φ := fun F v => iR F v held1) 0 rfl (T.PC.c _) (T.PC.n _ _ (by decide)) upd_same (Ev.eq (ev_add ev_int (ev_sum rfl T.sum_n (Ev.rd (EvN.fz (EvN.lcT (en_lc (r := (pR ad.pc)) (s := iR) (hb := show blkC ["self", "inner", "long", "written", "part"] (defScope s_Part_init) _ [("part", 4)] = true from by decide +kernel) 4 (fun (part_c1 : PT) => true) (fun (part_c1 : PT) => part_c1.m.size) (ei_list (r := (pR ad.pc)) (Ev.rs (ev_var (r := (lR (pR ad.pc))) 1 rfl h_inner))) (fun part_c1 vpart_c1 Fc1 Mc1 hm1 sc1 sm1 hpart_c1 Y hY => by obtain ⟨_, _, _, _, _, rfl⟩ := hY; have u1 := Mono.sub sc1 h_inner; exact ⟨ets_nil, fun g1 => (ev_pmethE (y := part_c1.m.size) T.PC (T.me_size _) (ok_Part_size T) (hr.mono (by decide)) T.b_Part_size (ev_var (r := (pR ad.pc)) 4 rfl hpart_c1) rfl)⟩) hd1 nd)))))) e_held1.symm) sh.w (by simp) (fun F4 M_ H_ v4 s4 eM_ w (hv4 : iR F4 v4 held1) => ?_)
  replace sF := sF.trans s4
  replace h_inner := Mono.mono s4 h_inner
  replace hv1 := Mono.mono s4 hv1
  cases (show v4 = V.int held1 from hv4)
  subst eM_
  replace w : Own F4 (upd (upd M sd (.own sx)) sx (.ins (ad.pc kk_) sd [("inner", v1), ("long", .int long), ("written", .int written), ("held", .int held1)])) H_ := w.cast (upd_upd.trans rfl)
  clear sh; have sh := SH.nil w
  show WSs _ _ _ [some (.ref sx), some v0, some (.int long), some (.int written), none] _
  obtain ⟨hd2, hm⟩ := req_of hb hm
  obtain ⟨deep1, e_deep1, hm⟩ := bnd_of hm
  refine ss_sfld (Φ := fun F v => iR F v deep1) 0 rfl (T.PC.c _) (T.PC.n _ _ (by decide)) upd_same (Ev.eq (ev_add ev_int (ev_maxD rfl hr.units T.max_n (Ev.rd (EvN.fz (EvN.lcT (en_lc (r := (pR ad.pc)) (s := iR) (hb := show blkC ["self", "inner", "long", "written", "part"] (defScope s_Part_init) _ [("part", 4)] = true from by decide +kernel) 4 (fun (part_c2 : PT) => true) (fun (part_c2 : PT) => part_c2.m.depth) (ei_list (r := (pR ad.pc)) (Ev.rs (ev_var (r := (lR (pR ad.pc))) 1 rfl h_inner))) (fun part_c2 vpart_c2 Fc2 Mc2 hm2 sc2 sm2 hpart_c2 Y hY => by obtain ⟨_, _, _, _, _, rfl⟩ := hY; have u2 := Mono.sub sc2 h_inner; exact ⟨ets_nil, fun g2 => (ev_pmethE (y := part_c2.m.depth) T.PC (T.me_depth _) (ok_Part_depth T) (hr.mono (by decide)) T.b_Part_depth (ev_var (r := (pR ad.pc)) 4 rfl hpart_c2) rfl)⟩) hd2 nd)))) ev_int)) e_deep1.symm) sh.w (by simp) (fun F5 M_ H_ v5 s5 eM_ w (hv5 : iR F5 v5 deep1) => ?_)
  replace sF := sF.trans s5
  replace h_inner := Mono.mono s5 h_inner
  replace hv1 := Mono.mono s5 hv1
  cases (show v5 = V.int deep1 from hv5)
  subst eM_
  replace w : Own F5 (upd (upd M sd (.own sx)) sx (.ins (ad.pc kk_) sd [("inner", v1), ("long", .int long), ("written", .int written), ("held", .int held1), ("deep", .int deep1)])) H_ := w.cast (upd_upd.trans rfl)
  clear sh; have sh := SH.nil w
  show WSs _ _ _ [some (.ref sx), some v0, some (.int long), some (.int written), none] _
  obtain ⟨hd3, hm⟩ := req_of hb hm
  obtain ⟨low1, e_low1, hm⟩ := bnd_of hm
  refine ss_sfld (Φ := fun F v => (oR iR) F v low1) 0 rfl (T.PC.c _) (T.PC.n _ _ (by decide)) upd_same (Ev.eq (ev_minN rfl hr.units T.min_n (Ev.rd (EvN.fz (en_lc (r := (pR ad.pc)) (s := iR) (hb := show blkC ["self", "inner", "long", "written", "part"] (defScope s_Part_init) _ [("part", 4)] = true from by decide +kernel) 4 (fun (part_c3 : PT) => (!Option.isNone part_c3.m.low)) (fun (part_c3 : PT) => (oG part_c3.m.low)) (ei_list (r := (pR ad.pc)) (Ev.rs (ev_var (r := (lR (pR ad.pc))) 1 rfl h_inner))) (fun part_c3 vpart_c3 Fc3 Mc3 hm3 sc3 sm3 hpart_c3 Y hY => by obtain ⟨_, _, _, _, _, rfl⟩ := hY; have u3 := Mono.sub sc3 h_inner; exact ⟨(ets_one (bx_isNot (ev_low T.PC (ev_var (r := (pR ad.pc)) 4 rfl hpart_c3)))), fun g3 => (Ev.oget (ev_pmethE (y := part_c3.m.low) T.PC (T.me_lowest _) (ok_Part_lowest T) (hr.mono (by decide)) T.b_Part_lowest (ev_var (r := (pR ad.pc)) 4 rfl hpart_c3) rfl) (oG_not g3))⟩) hd3 nd))) ev_non) e_low1.symm) sh.w (by simp) (fun F6 M_ H_ v6 s6 eM_ w (hv6 : (oR iR) F6 v6 low1) => ?_)
  replace sF := sF.trans s6
  replace h_inner := Mono.mono s6 h_inner
  replace hv1 := Mono.mono s6 hv1
  cases (show v6 = oV low1 from oV_of hv6)
  subst eM_
  replace w : Own F6 (upd (upd M sd (.own sx)) sx (.ins (ad.pc kk_) sd [("inner", v1), ("long", .int long), ("written", .int written), ("held", .int held1), ("deep", .int deep1), ("low", oV low1)])) H_ := w.cast (upd_upd.trans rfl)
  clear sh; have sh := SH.nil w
  show WSs _ _ _ [some (.ref sx), some v0, some (.int long), some (.int written), none] _
  obtain ⟨hd4, hm⟩ := req_of hb hm
  obtain ⟨high1, e_high1, hm⟩ := bnd_of hm
  refine ss_sfld (Φ := fun F v => (oR iR) F v high1) 0 rfl (T.PC.c _) (T.PC.n _ _ (by decide)) upd_same (Ev.eq (ev_maxN rfl hr.units T.max_n (Ev.rd (EvN.fz (en_lc (r := (pR ad.pc)) (s := iR) (hb := show blkC ["self", "inner", "long", "written", "part"] (defScope s_Part_init) _ [("part", 4)] = true from by decide +kernel) 4 (fun (part_c4 : PT) => (!Option.isNone part_c4.m.low)) (fun (part_c4 : PT) => (oG part_c4.m.high)) (ei_list (r := (pR ad.pc)) (Ev.rs (ev_var (r := (lR (pR ad.pc))) 1 rfl h_inner))) (fun part_c4 vpart_c4 Fc4 Mc4 hm4 sc4 sm4 hpart_c4 Y hY => by obtain ⟨_, _, _, _, _, rfl⟩ := hY; have u4 := Mono.sub sc4 h_inner; exact ⟨(ets_one (bx_isNot (ev_low T.PC (ev_var (r := (pR ad.pc)) 4 rfl hpart_c4)))), fun g4 => (Ev.oget (ev_pmethE (y := part_c4.m.high) T.PC (T.me_highest _) (ok_Part_highest T) (hr.mono (by decide)) T.b_Part_highest (ev_var (r := (pR ad.pc)) 4 rfl hpart_c4) rfl) (oG_sm ((hd4.1 part_c4 hm4) g4)))⟩) hd4.2 nd))) ev_non) e_high1.symm) sh.w (by simp) (fun F7 M_ H_ v7 s7 eM_ w (hv7 : (oR iR) F7 v7 high1) => ?_)
  replace sF := sF.trans s7
  replace h_inner := Mono.mono s7 h_inner
  replace hv1 := Mono.mono s7 hv1
  cases (show v7 = oV high1 from oV_of hv7)
  subst eM_
  replace w : Own F7 (upd (upd M sd (.own sx)) sx (.ins (ad.pc kk_) sd [("inner", v1), ("long", .int long), ("written", .int written), ("held", .int held1), ("deep", .int deep1), ("low", oV low1), ("high", oV high1)])) H_ := w.cast (upd_upd.trans rfl)
  clear sh; have sh := SH.nil w
  show WSs _ _ _ [some (.ref sx), some v0, some (.int long), some (.int written), none] _
  have hc1 := cal_ne hb hm
  rcases res_cases hc1 with ⟨look_at1, hy1⟩ | ⟨ee1, ⟨⟩, hy1⟩
  · replace hm := (cal_ok hy1).symm.trans hm
    refine ss_expr (Ev.eq (show EvF _ _ _ _ _ nR (m_look_at long (1 : Int) (2000 : Int)).get from ev_callVX (x := (long, (1 : Int), (2000 : Int), ())) tk (ok_look_at T) (hr.mono (by decide)) T.g_look_at T.F_look_at.kp T.b_look_at (ea_cons (r := iR) (ev_var (r := iR) 2 rfl rfl) (ea_cons (r := iR) ev_int (ea_cons (r := iR) (ev_globI T.c_MOST_CELLS.choose_spec) ea_nil))) (Res.isOk_of hy1)) (by rw [hy1] <;> rfl)) sh.w (fun F8 H_ s8 w => ?_)
    replace sF := sF.trans s8
    replace hv1 := Mono.mono s8 hv1
    replace sh := sh.up s8 w
    show WSs _ _ _ [some (.ref sx), some v0, some (.int long), some (.int written), none] _
    have hc2 := cal_ne hb hm
    rcases res_cases hc2 with ⟨look_at2, hy2⟩ | ⟨ee2, ⟨⟩, hy2⟩
    · replace hm := (cal_ok hy2).symm.trans hm
      refine ss_expr (Ev.eq (show EvF _ _ _ _ _ nR (m_look_at written (1 : Int) (900 : Int)).get from ev_callVX (x := (written, (1 : Int), (900 : Int), ())) tk (ok_look_at T) (hr.mono (by decide)) T.g_look_at T.F_look_at.kp T.b_look_at (ea_cons (r := iR) (ev_var (r := iR) 3 rfl rfl) (ea_cons (r := iR) ev_int (ea_cons (r := iR) (ev_globI T.c_MOST_LEAVES.choose_spec) ea_nil))) (Res.isOk_of hy2)) (by rw [hy2] <;> rfl)) sh.w (fun F9 H_ s9 w => ?_)
      replace sF := sF.trans s9
      replace hv1 := Mono.mono s9 hv1
      replace sh := sh.up s9 w
      show WSs _ _ _ [some (.ref sx), some v0, some (.int long), some (.int written), none] _
      have hc3 := cal_ne hb hm
      rcases res_cases hc3 with ⟨look_at3, hy3⟩ | ⟨ee3, ⟨⟩, hy3⟩
      · replace hm := (cal_ok hy3).symm.trans hm
        refine ss_expr (Ev.eq (show EvF _ _ _ _ _ nR (m_look_at held1 (1 : Int) (1500 : Int)).get from ev_callVX (x := (held1, (1 : Int), (1500 : Int), ())) tk (ok_look_at T) (hr.mono (by decide)) T.g_look_at T.F_look_at.kp T.b_look_at (ea_cons (r := iR) (ev_sfld (r := iR) (y := held1) 0 rfl (T.PC.c _) (T.PC.n _ _ (by decide)) upd_same rfl rfl) (ea_cons (r := iR) ev_int (ea_cons (r := iR) (ev_globI T.c_MOST_SIZE.choose_spec) ea_nil))) (Res.isOk_of hy3)) (by rw [hy3] <;> rfl)) sh.w (fun F10 H_ s10 w => ?_)
        replace sF := sF.trans s10
        replace hv1 := Mono.mono s10 hv1
        replace sh := sh.up s10 w
        show WSs _ _ _ [some (.ref sx), some v0, some (.int long), some (.int written), none] _
        have hc4 := cal_ne hb hm
        rcases res_cases hc4 with ⟨look_at4, hy4⟩ | ⟨ee4, ⟨⟩, hy4⟩
        · replace hm := (cal_ok hy4).symm.trans hm
          refine ss_expr (Ev.eq (show EvF _ _ _ _ _ nR (m_look_at deep1 (1 : Int) (12 : Int)).get from ev_callVX (x := (deep1, (1 : Int), (12 : Int), ())) tk (ok_look_at T) (hr.mono (by decide)) T.g_look_at T.F_look_at.kp T.b_look_at (ea_cons (r := iR) (ev_sfld (r := iR) (y := deep1) 0 rfl (T.PC.c _) (T.PC.n _ _ (by decide)) upd_same rfl rfl) (ea_cons (r := iR) ev_int (ea_cons (r := iR) (ev_globI T.c_MOST_DEPTH.choose_spec) ea_nil))) (Res.isOk_of hy4)) (by rw [hy4] <;> rfl)) sh.w (fun F11 H_ s11 w => ?_)
          replace sF := sF.trans s11
          replace hv1 := Mono.mono s11 hv1
          replace sh := sh.up s11 w
          show WSs _ _ _ [some (.ref sx), some v0, some (.int long), some (.int written), none] _
          refine ss_nil ?_
          obtain ⟨l_, vs_, e_, hl_, hA_⟩ := hv1
          cases e_
          exact kk _ _ _ (⟨long, written, held1, deep1, low1, high1⟩ : Meas) _ _ sF sh.less hm.symm hl_ hA_ rfl
        · replace hm := (cal_ex hy4).symm.trans hm
          refine ssx_expr (ex_callV (x := (deep1, (1 : Int), (12 : Int), ())) tk (ok_look_at T) (hr.mono (by decide)) T.g_look_at T.F_look_at.kp T.b_look_at (ea_cons (r := iR) (ev_sfld (r := iR) (y := deep1) 0 rfl (T.PC.c _) (T.PC.n _ _ (by decide)) upd_same rfl rfl) (ea_cons (r := iR) ev_int (ea_cons (r := iR) (ev_globI T.c_MOST_DEPTH.choose_spec) ea_nil))) hy4 (fun F12 H_ c_ d_ s12 w hR_ => ?_)) sh.w
          exact kx _ _ _ _ _ (sF.trans s12) (sh.up s12 w).less hm.symm hR_
      · replace hm := (cal_ex hy3).symm.trans hm
        refine ssx_expr (ex_callV (x := (held1, (1 : Int), (1500 : Int), ())) tk (ok_look_at T) (hr.mono (by decide)) T.g_look_at T.F_look_at.kp T.b_look_at (ea_cons (r := iR) (ev_sfld (r := iR) (y := held1) 0 rfl (T.PC.c _) (T.PC.n _ _ (by decide)) upd_same rfl rfl) (ea_cons (r := iR) ev_int (ea_cons (r := iR) (ev_globI T.c_MOST_SIZE.choose_spec) ea_nil))) hy3 (fun F13 H_ c_ d_ s13 w hR_ => ?_)) sh.w
        exact kx _ _ _ _ _ (sF.trans s13) (sh.up s13 w).less hm.symm hR_
    · replace hm := (cal_ex hy2).symm.trans hm
      refine ssx_expr (ex_callV (x := (written, (1 : Int), (900 : Int), ())) tk (ok_look_at T) (hr.mono (by decide)) T.g_look_at T.F_look_at.kp T.b_look_at (ea_cons (r := iR) (ev_var (r := iR) 3 rfl rfl) (ea_cons (r := iR) ev_int (ea_cons (r := iR) (ev_globI T.c_MOST_LEAVES.choose_spec) ea_nil))) hy2 (fun F14 H_ c_ d_ s14 w hR_ => ?_)) sh.w
      exact kx _ _ _ _ _ (sF.trans s14) (sh.up s14 w).less hm.symm hR_
  · replace hm := (cal_ex hy1).symm.trans hm
    refine ssx_expr (ex_callV (x := (long, (1 : Int), (2000 : Int), ())) tk (ok_look_at T) (hr.mono (by decide)) T.g_look_at T.F_look_at.kp T.b_look_at (ea_cons (r := iR) (ev_var (r := iR) 2 rfl rfl) (ea_cons (r := iR) ev_int (ea_cons (r := iR) (ev_globI T.c_MOST_CELLS.choose_spec) ea_nil))) hy1 (fun F15 H_ c_ d_ s15 w hR_ => ?_)) sh.w
    exact kx _ _ _ _ _ (sF.trans s15) (sh.up s15 w).less hm.symm hR_
theorem ok_Tone_init (T : Txt K mg ad) : FnOk P w K mg base (L2.CX P w) 3 ad.a_Tone_init ad.d_Tone_init ["self", "pitch", "cells"] (PSp (α := Int × Int × Unit) ad.xa ad.pc .tone (ac iR (ac iR an)) (fun x => m_Tone_init x.1 x.2.1)) := by
  have nd : List.Nodup (α := Str) ["self", "pitch", "cells"] := sc_Tone_init.nd
  refine ok_defX T.F_Tone_init sc_Tone_init (fun vs H Q E h => ?_) (fun cdv A outer s H vs Q E hr h tk => ?_)
  · obtain ⟨F, M, C, x, dx, us, a, rfl, ⟨_, _, rfl, _, ⟨_, _, rfl, _, rfl⟩⟩, _⟩ := h; rfl
  obtain ⟨F, M, sC, sx, sd, us_, ⟨pitch, cells, _⟩, rfl, ⟨v0, us0, rfl, hp0, ⟨v1, us1, rfl, hp1, rfl⟩⟩, hb, rfl, ne_s, nx, nd_s, w, kk, kx⟩ := h
  obtain ⟨r, hr0⟩ : ∃ r, m_Tone_init pitch cells = r := ⟨_, rfl⟩
  replace hb : r ≠ .bad := by rw [← hr0]; exact hb
  replace kk : ∀ F2 H2 fs t, Same F F2 → Own F2 (upd (upd M sd (.own sx)) sx (.ins (ad.pc .tone) sd fs)) H2 → r = .ok t → t.k = .tone → PMade ad.pc F2 fs t → Q .non H2 := fun F2 H2 fs t a b c d e => kk F2 H2 fs a b ⟨t, hr0.trans c, d, e⟩
  have kx0 : ∀ F2 H2 c d e, Same F F2 → Own F2 M H2 → r = .ex e () → exR ad.xa e F2 c d → E c d H2 := fun F2 H2 c d e a b h q => kx F2 H2 c d a b ⟨e, hr0.trans h, q⟩
  replace kx : ∀ F2 H2 c d e {fs : List (Str × V)}, Same F F2 → Own F2 (upd (upd M sd (.own sx)) sx (.ins (ad.pc .tone) sd fs)) H2 → r = .ex e () → exR ad.xa e F2 c d → E c d H2 := fun F2 H2 c d e fs a b h q => kx0 F2 H2 c d e a (b.lessM (same_self nx nd_s ne_s)) h q
  have hm := hr0; unfold m_Tone_init at hm
  have sF : Same F F := Same.refl _
  have sh := SH.nil w
  have hq0 : iR F v0 pitch := hp0
  cases (show v0 = V.int pitch from hq0)
  have hq1 : iR F v1 cells := hp1
  cases (show v1 = V.int cells from hq1)
  show WSs _ _ _ [some (.ref sx), some (.int pitch), some (.int cells)] _
  have hc1 := cal_ne hb hm
  rcases res_cases hc1 with ⟨look_at1, hy1⟩ | ⟨ee1, ⟨⟩, hy1⟩
  · replace hm := (cal_ok hy1).symm.trans hm
    refine ss_expr (Ev.eq (show EvF _ _ _ _ _ nR (m_look_at pitch (0 : Int) (127 : Int)).get from ev_callVX (x := (pitch, (0 : Int), (127 : Int), ())) tk (ok_look_at T) (hr.mono (by decide)) T.g_look_at T.F_look_at.kp T.b_look_at (ea_cons (r := iR) (ev_var (r := iR) 1 rfl rfl) (ea_cons (r := iR) ev_int (ea_cons (r := iR) (ev_globI T.c_HIGHEST.choose_spec) ea_nil))) (Res.isOk_of hy1)) (by rw [hy1] <;> rfl)) sh.w (fun F1 H_ s1 w => ?_)
    replace sF := sF.trans s1
    replace sh := sh.up s1 w
    show WSs _ _ _ [some (.ref sx), some (.int pitch), some (.int cells)] _
    have hc2 := cal_ne hb hm
    rcases res_cases hc2 with ⟨me1, hy2⟩ | ⟨ee2, ⟨⟩, hy2⟩
    · replace hm := (cal_ok hy2).symm.trans hm
      refine ss_pinit (x := (([] : List PT), cells, (1 : Int), ())) 0 tk T.BF (ok_Part_init T) (hr.mono (by decide)) T.pk_Part T.b_Part_init rfl ⟨_, rfl⟩ ne_s nx nd_s (ea_cons (r := (lR (pR ad.pc))) (EvN.fz (en_lst (r := (pR ad.pc)) ea_nilL)) (ea_cons (r := iR) (ev_var (r := iR) 2 rfl rfl) (ea_cons (r := iR) ev_int ea_nil))) sh.w hc2 (fun _ _ _ _ _ _ ⟨e_, h_, _⟩ => absurd (hy2.symm.trans h_) (fun z => nomatch z)) (fun F2 H_ fs_ s2 w ⟨me_, li_pb1, vs_pb1, hy_, hl_pb1, hA_pb1, ef_⟩ => ?_)
      subst ef_
      obtain rfl : me_ = me1 := Res.ok.inj (hy_.symm.trans hy2)
      replace sF := sF.trans s2
      have h_inner1 : lR (pR ad.pc) F2 (.ref li_pb1) ([] : List PT) := ⟨_, _, rfl, hl_pb1, hA_pb1⟩
      clear sh; have sh := SH.nil (show Own F2 (upd (upd M sd (.own sx)) sx (.ins (ad.pc .tone) sd [("inner", .ref li_pb1), ("long", .int me_.cells), ("written", .int me_.leaves), ("held", .int me_.size), ("deep", .int me_.depth), ("low", oV me_.low), ("high", oV me_.high)])) _ from w)
      show WSs _ _ _ [some (.ref sx), some (.int pitch), some (.int cells)] _
      refine ss_sfld (Φ := fun F v => iR F v pitch) 0 rfl (T.PC.c _) (T.PC.n _ _ (by decide)) upd_same (ev_var (r := iR) 1 rfl rfl) sh.w (by simp) (fun F3 M_ H_ v1 s3 eM_ w (hv1 : iR F3 v1 pitch) => ?_)
      replace sF := sF.trans s3
      replace h_inner1 := Mono.mono s3 h_inner1
      cases (show v1 = V.int pitch from hv1)
      subst eM_
      replace w : Own F3 (upd (upd M sd (.own sx)) sx (.ins (ad.pc .tone) sd [("inner", .ref li_pb1), ("long", .int me_.cells), ("written", .int me_.leaves), ("held", .int me_.size), ("deep", .int me_.depth), ("low", oV me_.low), ("high", oV me_.high), ("pitch", .int pitch)])) H_ := w.cast (upd_upd.trans rfl)
      clear sh; have sh := SH.nil w
      show WSs _ _ _ [some (.ref sx), some (.int pitch), some (.int cells)] _
      obtain ⟨low1, e_low1, hm⟩ := bnd_of hm
      refine ss_sfld (Φ := fun F v => (oR iR) F v low1) 0 rfl (T.PC.c _) (T.PC.n _ _ (by decide)) upd_same (Ev.eq (Ev.someO (r := iR) (ev_var (r := iR) 1 rfl rfl)) e_low1.symm) sh.w (by simp) (fun F4 M_ H_ v2 s4 eM_ w (hv2 : (oR iR) F4 v2 low1) => ?_)
      replace sF := sF.trans s4
      replace h_inner1 := Mono.mono s4 h_inner1
      cases (show v2 = oV low1 from oV_of hv2)
      subst eM_
      replace w : Own F4 (upd (upd M sd (.own sx)) sx (.ins (ad.pc .tone) sd [("inner", .ref li_pb1), ("long", .int me_.cells), ("written", .int me_.leaves), ("held", .int me_.size), ("deep", .int me_.depth), ("low", oV low1), ("high", oV me_.high), ("pitch", .int pitch)])) H_ := w.cast (upd_upd.trans rfl)
      clear sh; have sh := SH.nil w
      show WSs _ _ _ [some (.ref sx), some (.int pitch), some (.int cells)] _
      obtain ⟨high1, e_high1, hm⟩ := bnd_of hm
      refine ss_sfld (Φ := fun F v => (oR iR) F v high1) 0 rfl (T.PC.c _) (T.PC.n _ _ (by decide)) upd_same (Ev.eq (Ev.someO (r := iR) (ev_var (r := iR) 1 rfl rfl)) e_high1.symm) sh.w (by simp) (fun F5 M_ H_ v3 s5 eM_ w (hv3 : (oR iR) F5 v3 high1) => ?_)
      replace sF := sF.trans s5
      replace h_inner1 := Mono.mono s5 h_inner1
      cases (show v3 = oV high1 from oV_of hv3)
      subst eM_
      replace w : Own F5 (upd (upd M sd (.own sx)) sx (.ins (ad.pc .tone) sd [("inner", .ref li_pb1), ("long", .int me_.cells), ("written", .int me_.leaves), ("held", .int me_.size), ("deep", .int me_.depth), ("low", oV low1), ("high", oV high1), ("pitch", .int pitch)])) H_ := w.cast (upd_upd.trans rfl)
      clear sh; have sh := SH.nil w
      show WSs _ _ _ [some (.ref sx), some (.int pitch), some (.int cells)] _
      refine ss_nil ?_
      obtain ⟨l_, vs_, e_, hl_, hA_⟩ := h_inner1
      cases e_
      exact kk _ _ _ (PT.mk .tone pitch ([] : List PT) ⟨me_.cells, me_.leaves, me_.size, me_.depth, low1, high1⟩) sF sh.less hm.symm rfl ⟨_, _, hl_, hA_, rfl⟩
    · replace hm := (cal_ex hy2).symm.trans hm
      refine ss_pinit (x := (([] : List PT), cells, (1 : Int), ())) 0 tk T.BF (ok_Part_init T) (hr.mono (by decide)) T.pk_Part T.b_Part_init rfl ⟨_, rfl⟩ ne_s nx nd_s (ea_cons (r := (lR (pR ad.pc))) (EvN.fz (en_lst (r := (pR ad.pc)) ea_nilL)) (ea_cons (r := iR) (ev_var (r := iR) 2 rfl rfl) (ea_cons (r := iR) ev_int ea_nil))) sh.w hc2 (fun F6 H_ c_ d_ s6 w ⟨e_, h_, hR_⟩ => ?_) (fun _ _ _ _ _ ⟨_, _, _, h_, _⟩ => absurd (hy2.symm.trans h_) (fun z => nomatch z))
      obtain rfl : e_ = ee2 := (Res.ex.inj (h_.symm.trans hy2)).1
      exact kx0 _ _ _ _ _ (sF.trans s6) w hm.symm hR_
  · replace hm := (cal_ex hy1).symm.trans hm
    refine ssx_expr (ex_callV (x := (pitch, (0 : Int), (127 : Int), ())) tk (ok_look_at T) (hr.mono (by decide)) T.g_look_at T.F_look_at.kp T.b_look_at (ea_cons (r := iR) (ev_var (r := iR) 1 rfl rfl) (ea_cons (r := iR) ev_int (ea_cons (r := iR) (ev_globI T.c_HIGHEST.choose_spec) ea_nil))) hy1 (fun F7 H_ c_ d_ s7 w hR_ => ?_)) sh.w
    exact kx _ _ _ _ _ (sF.trans s7) (sh.up s7 w).less hm.symm hR_
theorem ok_Rest_init (T : Txt K mg ad) : FnOk P w K mg base (L2.CX P w) 3 ad.a_Rest_init ad.d_Rest_init ["self", "cells"] (PSp (α := Int × Unit) ad.xa ad.pc .rest (ac iR an) (fun x => m_Rest_init x.1)) := by
  have nd : List.Nodup (α := Str) ["self", "cells"] := sc_Rest_init.nd
  refine ok_defX T.F_Rest_init sc_Rest_init (fun vs H Q E h => ?_) (fun cdv A outer s H vs Q E hr h tk => ?_)
  · obtain ⟨F, M, C, x, dx, us, a, rfl, ⟨_, _, rfl, _, rfl⟩, _⟩ := h; rfl
  obtain ⟨F, M, sC, sx, sd, us_, ⟨cells, _⟩, rfl, ⟨v0, us0, rfl, hp0, rfl⟩, hb, rfl, ne_s, nx, nd_s, w, kk, kx⟩ := h
  obtain ⟨r, hr0⟩ : ∃ r, m_Rest_init cells = r := ⟨_, rfl⟩
  replace hb : r ≠ .bad := by rw [← hr0]; exact hb
  replace kk : ∀ F2 H2 fs t, Same F F2 → Own F2 (upd (upd M sd (.own sx)) sx (.ins (ad.pc .rest) sd fs)) H2 → r = .ok t → t.k = .rest → PMade ad.pc F2 fs t → Q .non H2 := fun F2 H2 fs t a b c d e => kk F2 H2 fs a b ⟨t, hr0.trans c, d, e⟩
  have kx0 : ∀ F2 H2 c d e, Same F F2 → Own F2 M H2 → r = .ex e () → exR ad.xa e F2 c d → E c d H2 := fun F2 H2 c d e a b h q => kx F2 H2 c d a b ⟨e, hr0.trans h, q⟩
  replace kx : ∀ F2 H2 c d e {fs : List (Str × V)}, Same F F2 → Own F2 (upd (upd M sd (.own sx)) sx (.ins (ad.pc .rest) sd fs)) H2 → r = .ex e () → exR ad.xa e F2 c d → E c d H2 := fun F2 H2 c d e fs a b h q => kx0 F2 H2 c d e a (b.lessM (same_self nx nd_s ne_s)) h q
  have hm := hr0; unfold m_Rest_init at hm
  have sF : Same F F := Same.refl _
  have sh := SH.nil w
  have hq0 : iR F v0 cells := hp0
  cases (show v0 = V.int cells from hq0)
  show WSs _ _ _ [some (.ref sx), some (.int cells)] _
  have hc1 := cal_ne hb hm
  rcases res_cases hc1 with ⟨me1, hy1⟩ | ⟨ee1, ⟨⟩, hy1⟩
  · replace hm := (cal_ok hy1).symm.trans hm
    refine ss_pinit (x := (([] : List PT), cells, (1 : Int), ())) 0 tk T.BF (ok_Part_init T) (hr.mono (by decide)) T.pk_Part T.b_Part_init rfl ⟨_, rfl⟩ ne_s nx nd_s (ea_cons (r := (lR (pR ad.pc))) (EvN.fz (en_lst (r := (pR ad.pc)) ea_nilL)) (ea_cons (r := iR) (ev_var (r := iR) 1 rfl rfl) (ea_cons (r := iR) ev_int ea_nil))) sh.w hc1 (fun _ _ _ _ _ _ ⟨e_, h_, _⟩ => absurd (hy1.symm.trans h_) (fun z => nomatch z)) (fun F1 H_ fs_ s1 w ⟨me_, li_pb1, vs_pb1, hy_, hl_pb1, hA_pb1, ef_⟩ => ?_)
    subst ef_
    obtain rfl : me_ = me1 := Res.ok.inj (hy_.symm.trans hy1)
    replace sF := sF.trans s1
    have h_inner1 : lR (pR ad.pc) F1 (.ref li_pb1) ([] : List PT) := ⟨_, _, rfl, hl_pb1, hA_pb1⟩
    clear sh; have sh := SH.nil (show Own F1 (upd (upd M sd (.own sx)) sx (.ins (ad.pc .rest) sd [("inner", .ref li_pb1), ("long", .int me_.cells), ("written", .int me_.leaves), ("held", .int me_.size), ("deep", .int me_.depth), ("low", oV me_.low), ("high", oV me_.high)])) _ from w)
    show WSs _ _ _ [some (.ref sx), some (.int cells)] _
    refine ss_nil ?_
    obtain ⟨l_, vs_, e_, hl_, hA_⟩ := h_inner1
    cases e_
    exact kk _ _ _ (PT.mk .rest 0 ([] : List PT) ⟨me_.cells, me_.leaves, me_.size, me_.depth, me_.low, me_.high⟩) sF sh.less hm.symm rfl ⟨_, _, hl_, hA_, rfl⟩
  · replace hm := (cal_ex hy1).symm.trans hm
    refine ss_pinit (x := (([] : List PT), cells, (1 : Int), ())) 0 tk T.BF (ok_Part_init T) (hr.mono (by decide)) T.pk_Part T.b_Part_init rfl ⟨_, rfl⟩ ne_s nx nd_s (ea_cons (r := (lR (pR ad.pc))) (EvN.fz (en_lst (r := (pR ad.pc)) ea_nilL)) (ea_cons (r := iR) (ev_var (r := iR) 1 rfl rfl) (ea_cons (r := iR) ev_int ea_nil))) sh.w hc1 (fun F2 H_ c_ d_ s2 w ⟨e_, h_, hR_⟩ => ?_) (fun _ _ _ _ _ ⟨_, _, _, h_, _⟩ => absurd (hy1.symm.trans h_) (fun z => nomatch z))
    obtain rfl : e_ = ee1 := (Res.ex.inj (h_.symm.trans hy1)).1
    exact kx0 _ _ _ _ _ (sF.trans s2) w hm.symm hR_
theorem ok_Row_init (T : Txt K mg ad) : FnOk P w K mg base (L2.CX P w) 3 ad.a_Row_init ad.d_Row_init ["self", "parts"] (PSpM (α := (List PT) × Unit) ad.xa ad.pc .row (fun M_ => (ac (rtR M_ (pR ad.pc)) an)) (fun x => m_Row_init x.1)) := by
  have nd : List.Nodup (α := Str) ["self", "parts", "part"] := sc_Row_init.nd
  refine ok_defX T.F_Row_init sc_Row_init (fun vs H Q E h => ?_) (fun cdv A outer s H vs Q E hr h tk => ?_)
  · obtain ⟨F, M, C, x, dx, us, a, rfl, ⟨_, _, rfl, _, rfl⟩, _⟩ := h; rfl
  obtain ⟨F, M, sC, sx, sd, us_, ⟨parts, _⟩, rfl, ⟨v0, us0, rfl, hp0, rfl⟩, hb, rfl, ne_s, nx, nd_s, w, kk, kx⟩ := h
  obtain ⟨r, hr0⟩ : ∃ r, m_Row_init parts = r := ⟨_, rfl⟩
  replace hb : r ≠ .bad := by rw [← hr0]; exact hb
  replace kk : ∀ F2 H2 fs t, Same F F2 → Own F2 (upd (upd M sd (.own sx)) sx (.ins (ad.pc .row) sd fs)) H2 → r = .ok t → t.k = .row → PMade ad.pc F2 fs t → Q .non H2 := fun F2 H2 fs t a b c d e => kk F2 H2 fs a b ⟨t, hr0.trans c, d, e⟩
  have kx0 : ∀ F2 H2 c d e, Same F F2 → Own F2 M H2 → r = .ex e () → exR ad.xa e F2 c d → E c d H2 := fun F2 H2 c d e a b h q => kx F2 H2 c d a b ⟨e, hr0.trans h, q⟩
  replace kx : ∀ F2 H2 c d e {fs : List (Str × V)}, Same F F2 → Own F2 (upd (upd M sd (.own sx)) sx (.ins (ad.pc .row) sd fs)) H2 → r = .ex e () → exR ad.xa e F2 c d → E c d H2 := fun F2 H2 c d e fs a b h q => kx0 F2 H2 c d e a (b.lessM (same_self nx nd_s ne_s)) h q
  have hm := hr0; unfold m_Row_init at hm
  have sF : Same F F := Same.refl _
  have sh := SH.nil w
  have hq0 : rtR (upd (upd M sd (.own sx)) sx (.ins (ad.pc .row) sd [])) (pR ad.pc) F v0 parts := rtR.upM hp0 (same_self nx nd_s ne_s)
  have h_parts := hq0
  show WSs _ _ _ [some (.ref sx), some v0, none] _
  obtain ⟨hd1, hm⟩ := req_of hb hm
  have hc1 := cal_ne hb hm
  rcases res_cases hc1 with ⟨me1, hy1⟩ | ⟨ee1, ⟨⟩, hy1⟩
  · replace hm := (cal_ok hy1).symm.trans hm
    refine ss_pinit (x := (parts, (parts.map (fun (part_c1 : PT) => part_c1.m.cells)).sum, (parts.map (fun (part_c2 : PT) => part_c2.m.leaves)).sum, ())) 0 tk T.BF (ok_Part_init T) (hr.mono (by decide)) T.pk_Part T.b_Part_init rfl ⟨_, rfl⟩ ne_s nx nd_s (ea_cons (r := (lR (pR ad.pc))) (EvN.fz (en_list T.list_n (Ev.td (ev_var (r := rtR (upd (upd M sd (.own sx)) sx (.ins (ad.pc .row) sd [])) (pR ad.pc)) 1 rfl h_parts)))) (ea_cons (r := iR) (Ev.coolT h_parts fun Fk1 Mk1 sk1 hk1 => by exact (ev_sum rfl T.sum_n (Ev.rd (EvN.fz (EvN.lcT (en_lc (r := (pR ad.pc)) (s := iR) (hb := show blkC ["self", "parts", "part"] (defScope s_Row_init) _ [("part", 2)] = true from by decide +kernel) 2 (fun (part_c1 : PT) => true) (fun (part_c1 : PT) => part_c1.m.cells) (ei_list (r := (pR ad.pc)) (Ev.rs (ev_var (r := (lR (pR ad.pc))) 1 rfl hk1))) (fun part_c1 vpart_c1 Fc1 Mc1 hm1 sc1 sm1 hpart_c1 Y hY => by obtain ⟨_, _, _, _, _, rfl⟩ := hY; have u1 := Mono.sub sc1 hk1; exact ⟨ets_nil, fun g1 => (ev_pmethE (y := part_c1.m.cells) T.PC (T.me_cells _) (ok_Part_cells T) (hr.mono (by decide)) T.b_Part_cells (ev_var (r := (pR ad.pc)) 2 rfl hpart_c1) rfl)⟩) hd1 nd)))))) (ea_cons (r := iR) (Ev.coolT h_parts fun Fk2 Mk2 sk2 hk2 => by exact (ev_sum rfl T.sum_n (Ev.rd (EvN.fz (EvN.lcT (en_lc (r := (pR ad.pc)) (s := iR) (hb := show blkC ["self", "parts", "part"] (defScope s_Row_init) _ [("part", 2)] = true from by decide +kernel) 2 (fun (part_c2 : PT) => true) (fun (part_c2 : PT) => part_c2.m.leaves) (ei_list (r := (pR ad.pc)) (Ev.rs (ev_var (r := (lR (pR ad.pc))) 1 rfl hk2))) (fun part_c2 vpart_c2 Fc2 Mc2 hm2 sc2 sm2 hpart_c2 Y hY => by obtain ⟨_, _, _, _, _, rfl⟩ := hY; have u2 := Mono.sub sc2 hk2; exact ⟨ets_nil, fun g2 => (ev_pmethE (y := part_c2.m.leaves) T.PC (T.me_leaves _) (ok_Part_leaves T) (hr.mono (by decide)) T.b_Part_leaves (ev_var (r := (pR ad.pc)) 2 rfl hpart_c2) rfl)⟩) hd1 nd)))))) ea_nil))) sh.w hc1 (fun _ _ _ _ _ _ ⟨e_, h_, _⟩ => absurd (hy1.symm.trans h_) (fun z => nomatch z)) (fun F1 H_ fs_ s1 w ⟨me_, li_pb1, vs_pb1, hy_, hl_pb1, hA_pb1, ef_⟩ => ?_)
    subst ef_
    obtain rfl : me_ = me1 := Res.ok.inj (hy_.symm.trans hy1)
    replace sF := sF.trans s1
    replace h_parts := Mono.mono s1 h_parts
    have h_inner1 : lR (pR ad.pc) F1 (.ref li_pb1) parts := ⟨_, _, rfl, hl_pb1, hA_pb1⟩
    clear sh; have sh := SH.nil (show Own F1 (upd (upd M sd (.own sx)) sx (.ins (ad.pc .row) sd [("inner", .ref li_pb1), ("long", .int me_.cells), ("written", .int me_.leaves), ("held", .int me_.size), ("deep", .int me_.depth), ("low", oV me_.low), ("high", oV me_.high)])) _ from w)
    show WSs _ _ _ [some (.ref sx), some v0, none] _
    refine ss_nil ?_
    obtain ⟨l_, vs_, e_, hl_, hA_⟩ := h_inner1
    cases e_
    exact kk _ _ _ (PT.mk .row 0 parts ⟨me_.cells, me_.leaves, me_.size, me_.depth, me_.low, me_.high⟩) sF sh.less hm.symm rfl ⟨_, _, hl_, hA_, rfl⟩
  · replace hm := (cal_ex hy1).symm.trans hm
    refine ss_pinit (x := (parts, (parts.map (fun (part_c1 : PT) => part_c1.m.cells)).sum, (parts.map (fun (part_c2 : PT) => part_c2.m.leaves)).sum, ())) 0 tk T.BF (ok_Part_init T) (hr.mono (by decide)) T.pk_Part T.b_Part_init rfl ⟨_, rfl⟩ ne_s nx nd_s (ea_cons (r := (lR (pR ad.pc))) (EvN.fz (en_list T.list_n (Ev.td (ev_var (r := rtR (upd (upd M sd (.own sx)) sx (.ins (ad.pc .row) sd [])) (pR ad.pc)) 1 rfl h_parts)))) (ea_cons (r := iR) (Ev.coolT h_parts fun Fk1 Mk1 sk1 hk1 => by exact (ev_sum rfl T.sum_n (Ev.rd (EvN.fz (EvN.lcT (en_lc (r := (pR ad.pc)) (s := iR) (hb := show blkC ["self", "parts", "part"] (defScope s_Row_init) _ [("part", 2)] = true from by decide +kernel) 2 (fun (part_c1 : PT) => true) (fun (part_c1 : PT) => part_c1.m.cells) (ei_list (r := (pR ad.pc)) (Ev.rs (ev_var (r := (lR (pR ad.pc))) 1 rfl hk1))) (fun part_c1 vpart_c1 Fc1 Mc1 hm1 sc1 sm1 hpart_c1 Y hY => by obtain ⟨_, _, _, _, _, rfl⟩ := hY; have u1 := Mono.sub sc1 hk1; exact ⟨ets_nil, fun g1 => (ev_pmethE (y := part_c1.m.cells) T.PC (T.me_cells _) (ok_Part_cells T) (hr.mono (by decide)) T.b_Part_cells (ev_var (r := (pR ad.pc)) 2 rfl hpart_c1) rfl)⟩) hd1 nd)))))) (ea_cons (r := iR) (Ev.coolT h_parts fun Fk2 Mk2 sk2 hk2 => by exact (ev_sum rfl T.sum_n (Ev.rd (EvN.fz (EvN.lcT (en_lc (r := (pR ad.pc)) (s := iR) (hb := show blkC ["self", "parts", "part"] (defScope s_Row_init) _ [("part", 2)] = true from by decide +kernel) 2 (fun (part_c2 : PT) => true) (fun (part_c2 : PT) => part_c2.m.leaves) (ei_list (r := (pR ad.pc)) (Ev.rs (ev_var (r := (lR (pR ad.pc))) 1 rfl hk2))) (fun part_c2 vpart_c2 Fc2 Mc2 hm2 sc2 sm2 hpart_c2 Y hY => by obtain ⟨_, _, _, _, _, rfl⟩ := hY; have u2 := Mono.sub sc2 hk2; exact ⟨ets_nil, fun g2 => (ev_pmethE (y := part_c2.m.leaves) T.PC (T.me_leaves _) (ok_Part_leaves T) (hr.mono (by decide)) T.b_Part_leaves (ev_var (r := (pR ad.pc)) 2 rfl hpart_c2) rfl)⟩) hd1 nd)))))) ea_nil))) sh.w hc1 (fun F2 H_ c_ d_ s2 w ⟨e_, h_, hR_⟩ => ?_) (fun _ _ _ _ _ ⟨_, _, _, h_, _⟩ => absurd (hy1.symm.trans h_) (fun z => nomatch z))
    obtain rfl : e_ = ee1 := (Res.ex.inj (h_.symm.trans hy1)).1
    exact kx0 _ _ _ _ _ (sF.trans s2) w hm.symm hR_
theorem ok_Beside_init (T : Txt K mg ad) : FnOk P w K mg base (L2.CX P w) 3 ad.a_Beside_init ad.d_Beside_init ["self", "parts"] (PSpM (α := (List PT) × Unit) ad.xa ad.pc .beside (fun M_ => (ac (rtR M_ (pR ad.pc)) an)) (fun x => m_Beside_init x.1)) := by
  have nd : List.Nodup (α := Str) ["self", "parts", "longest", "part"] := sc_Beside_init.nd
  refine ok_defX T.F_Beside_init sc_Beside_init (fun vs H Q E h => ?_) (fun cdv A outer s H vs Q E hr h tk => ?_)
  · obtain ⟨F, M, C, x, dx, us, a, rfl, ⟨_, _, rfl, _, rfl⟩, _⟩ := h; rfl
  obtain ⟨F, M, sC, sx, sd, us_, ⟨parts, _⟩, rfl, ⟨v0, us0, rfl, hp0, rfl⟩, hb, rfl, ne_s, nx, nd_s, w, kk, kx⟩ := h
  obtain ⟨r, hr0⟩ : ∃ r, m_Beside_init parts = r := ⟨_, rfl⟩
  replace hb : r ≠ .bad := by rw [← hr0]; exact hb
  replace kk : ∀ F2 H2 fs t, Same F F2 → Own F2 (upd (upd M sd (.own sx)) sx (.ins (ad.pc .beside) sd fs)) H2 → r = .ok t → t.k = .beside → PMade ad.pc F2 fs t → Q .non H2 := fun F2 H2 fs t a b c d e => kk F2 H2 fs a b ⟨t, hr0.trans c, d, e⟩
  have kx0 : ∀ F2 H2 c d e, Same F F2 → Own F2 M H2 → r = .ex e () → exR ad.xa e F2 c d → E c d H2 := fun F2 H2 c d e a b h q => kx F2 H2 c d a b ⟨e, hr0.trans h, q⟩
  replace kx : ∀ F2 H2 c d e {fs : List (Str × V)}, Same F F2 → Own F2 (upd (upd M sd (.own sx)) sx (.ins (ad.pc .beside) sd fs)) H2 → r = .ex e () → exR ad.xa e F2 c d → E c d H2 := fun F2 H2 c d e fs a b h q => kx0 F2 H2 c d e a (b.lessM (same_self nx nd_s ne_s)) h q
  have hm := hr0; unfold m_Beside_init at hm
  have sF : Same F F := Same.refl _
  have sh := SH.nil w
  have hq0 : rtR (upd (upd M sd (.own sx)) sx (.ins (ad.pc .beside) sd [])) (pR ad.pc) F v0 parts := rtR.upM hp0 (same_self nx nd_s ne_s)
  have h_parts := hq0
  show WSs _ _ _ [some (.ref sx), some v0, none, none] _
  refine ss_if (bx_lt (ev_len T.len_n (Ev.td (ev_var (r := rtR (upd (upd M sd (.own sx)) sx (.ins (ad.pc .beside) sd [])) (pR ad.pc)) 1 rfl h_parts))) ev_int) sh.w (fun c1 H_ w => ?_) (fun c1 H_ w => ?_)
  · replace hm := ite_t hm c1; replace sh := sh.h w
    refine ss_raise rfl tk (pmk_own PySem.F.excBase_ValueError T.xi_NoPart T.k_NoPart T.kq_NoPart (raises_own T.rb_NoPart T.rt_NoPart) rfl) ?_
    exact kx _ _ _ _ _ sF sh.less hm.symm ⟨rfl, rfl⟩
  · replace hm := ite_f hm c1; replace sh := sh.h w
    refine ss_nil ?_
    show WSs _ _ _ [some (.ref sx), some v0, none, none] _
    obtain ⟨hd1, hm⟩ := req_of hb hm
    obtain ⟨longest1, e_longest1, hm⟩ := bnd_of hm
    refine ss_setI 2 (Ev.eq (Ev.coolT h_parts fun Fk1 Mk1 sk1 hk1 => by exact (ev_maxL rfl T.max_n (Ev.rd (EvN.fz (EvN.lcT (en_lc (r := (pR ad.pc)) (s := iR) (hb := show blkC ["self", "parts", "longest", "part"] (defScope s_Beside_init) _ [("part", 3)] = true from by decide +kernel) 3 (fun (part_c2 : PT) => true) (fun (part_c2 : PT) => part_c2.m.cells) (ei_list (r := (pR ad.pc)) (Ev.rs (ev_var (r := (lR (pR ad.pc))) 1 rfl hk1))) (fun part_c2 vpart_c2 Fc1 Mc1 hm1 sc1 sm1 hpart_c2 Y hY => by obtain ⟨_, _, _, _, _, rfl⟩ := hY; have u1 := Mono.sub sc1 hk1; exact ⟨ets_nil, fun g1 => (ev_pmethE (y := part_c2.m.cells) T.PC (T.me_cells _) (ok_Part_cells T) (hr.mono (by decide)) T.b_Part_cells (ev_var (r := (pR ad.pc)) 3 rfl hpart_c2) rfl)⟩) hd1.1 nd)))) hd1.2)) e_longest1.symm) sh.w (fun H_ w => ?_) nd
    replace sh := sh.h w
    show WSs _ _ _ [some (.ref sx), some v0, some (.int longest1), none] _
    obtain ⟨hd2, hm⟩ := req_of hb hm
    have hc1 := cal_ne hb hm
    rcases res_cases hc1 with ⟨me1, hy1⟩ | ⟨ee1, ⟨⟩, hy1⟩
    · replace hm := (cal_ok hy1).symm.trans hm
      refine ss_pinit (x := (parts, longest1, (parts.map (fun (part_c3 : PT) => part_c3.m.leaves)).sum, ())) 0 tk T.BF (ok_Part_init T) (hr.mono (by decide)) T.pk_Part T.b_Part_init rfl ⟨_, rfl⟩ ne_s nx nd_s (ea_cons (r := (lR (pR ad.pc))) (EvN.fz (en_list T.list_n (Ev.td (ev_var (r := rtR (upd (upd M sd (.own sx)) sx (.ins (ad.pc .beside) sd [])) (pR ad.pc)) 1 rfl h_parts)))) (ea_cons (r := iR) (ev_var (r := iR) 2 rfl rfl) (ea_cons (r := iR) (Ev.coolT h_parts fun Fk2 Mk2 sk2 hk2 => by exact (ev_sum rfl T.sum_n (Ev.rd (EvN.fz (EvN.lcT (en_lc (r := (pR ad.pc)) (s := iR) (hb := show blkC ["self", "parts", "longest", "part"] (defScope s_Beside_init) _ [("part", 3)] = true from by decide +kernel) 3 (fun (part_c3 : PT) => true) (fun (part_c3 : PT) => part_c3.m.leaves) (ei_list (r := (pR ad.pc)) (Ev.rs (ev_var (r := (lR (pR ad.pc))) 1 rfl hk2))) (fun part_c3 vpart_c3 Fc2 Mc2 hm2 sc2 sm2 hpart_c3 Y hY => by obtain ⟨_, _, _, _, _, rfl⟩ := hY; have u2 := Mono.sub sc2 hk2; exact ⟨ets_nil, fun g2 => (ev_pmethE (y := part_c3.m.leaves) T.PC (T.me_leaves _) (ok_Part_leaves T) (hr.mono (by decide)) T.b_Part_leaves (ev_var (r := (pR ad.pc)) 3 rfl hpart_c3) rfl)⟩) hd2 nd)))))) ea_nil))) sh.w hc1 (fun _ _ _ _ _ _ ⟨e_, h_, _⟩ => absurd (hy1.symm.trans h_) (fun z => nomatch z)) (fun F1 H_ fs_ s1 w ⟨me_, li_pb1, vs_pb1, hy_, hl_pb1, hA_pb1, ef_⟩ => ?_)
      subst ef_
      obtain rfl : me_ = me1 := Res.ok.inj (hy_.symm.trans hy1)
      replace sF := sF.trans s1
      replace h_parts := Mono.mono s1 h_parts
      have h_inner1 : lR (pR ad.pc) F1 (.ref li_pb1) parts := ⟨_, _, rfl, hl_pb1, hA_pb1⟩
      clear sh; have sh := SH.nil (show Own F1 (upd (upd M sd (.own sx)) sx (.ins (ad.pc .beside) sd [("inner", .ref li_pb1), ("long", .int me_.cells), ("written", .int me_.leaves), ("held", .int me_.size), ("deep", .int me_.depth), ("low", oV me_.low), ("high", oV me_.high)])) _ from w)
      show WSs _ _ _ [some (.ref sx), some v0, some (.int longest1), none] _
      refine ss_nil ?_
      obtain ⟨l_, vs_, e_, hl_, hA_⟩ := h_inner1
      cases e_
      exact kk _ _ _ (PT.mk .beside 0 parts ⟨me_.cells, me_.leaves, me_.size, me_.depth, me_.low, me_.high⟩) sF sh.less hm.symm rfl ⟨_, _, hl_, hA_, rfl⟩
    · replace hm := (cal_ex hy1).symm.trans hm
      refine ss_pinit (x := (parts, longest1, (parts.map (fun (part_c3 : PT) => part_c3.m.leaves)).sum, ())) 0 tk T.BF (ok_Part_init T) (hr.mono (by decide)) T.pk_Part T.b_Part_init rfl ⟨_, rfl⟩ ne_s nx nd_s (ea_cons (r := (lR (pR ad.pc))) (EvN.fz (en_list T.list_n (Ev.td (ev_var (r := rtR (upd (upd M sd (.own sx)) sx (.ins (ad.pc .beside) sd [])) (pR ad.pc)) 1 rfl h_parts)))) (ea_cons (r := iR) (ev_var (r := iR) 2 rfl rfl) (ea_cons (r := iR) (Ev.coolT h_parts fun Fk2 Mk2 sk2 hk2 => by exact (ev_sum rfl T.sum_n (Ev.rd (EvN.fz (EvN.lcT (en_lc (r := (pR ad.pc)) (s := iR) (hb := show blkC ["self", "parts", "longest", "part"] (defScope s_Beside_init) _ [("part", 3)] = true from by decide +kernel) 3 (fun (part_c3 : PT) => true) (fun (part_c3 : PT) => part_c3.m.leaves) (ei_list (r := (pR ad.pc)) (Ev.rs (ev_var (r := (lR (pR ad.pc))) 1 rfl hk2))) (fun part_c3 vpart_c3 Fc2 Mc2 hm2 sc2 sm2 hpart_c3 Y hY => by obtain ⟨_, _, _, _, _, rfl⟩ := hY; have u2 := Mono.sub sc2 hk2; exact ⟨ets_nil, fun g2 => (ev_pmethE (y := part_c3.m.leaves) T.PC (T.me_leaves _) (ok_Part_leaves T) (hr.mono (by decide)) T.b_Part_leaves (ev_var (r := (pR ad.pc)) 3 rfl hpart_c3) rfl)⟩) hd2 nd)))))) ea_nil))) sh.w hc1 (fun F2 H_ c_ d_ s2 w ⟨e_, h_, hR_⟩ => ?_) (fun _ _ _ _ _ ⟨_, _, _, h_, _⟩ => absurd (hy1.symm.trans h_) (fun z => nomatch z))
      obtain rfl : e_ = ee1 := (Res.ex.inj (h_.symm.trans hy1)).1
      exact kx0 _ _ _ _ _ (sF.trans s2) w hm.symm hR_
theorem ok_Tone_words (T : Txt K mg ad) {W : PT → Rs (List Str)} {L_ : Nat} (IH : ∀ k, FnOk P w K mg base CX0 L_ (ad.mw k) (ad.dw k) ["self"] (spW ad.pc W k)) : FnOk P w K mg base CX0 (L_ + 1) ad.a_Tone_words ad.d_Tone_words ["self"] (spW ad.pc (b_Tone_words W) .tone) := by
  have nd : List.Nodup (α := Str) ["self"] := sc_Tone_words.nd
  refine ok_def T.F_Tone_words sc_Tone_words (fun vs H Q E h => ?_) (fun cdv A outer s H vs Q E hr h => ?_)
  · obtain ⟨F, M, x, ⟨v0, us0, rfl, _, rfl⟩, _⟩ := h; rfl
  obtain ⟨F, M, ⟨self, _⟩, ⟨v0, us0, rfl, hp0, rfl⟩, hb, w, kk⟩ := h
  have hk : self.k = .tone := Classical.byContradiction fun q => hb (if_neg q)
  have hx : (if self.k = .tone then b_Tone_words W self else .bad) = b_Tone_words W self := if_pos hk
  obtain ⟨r, hr0⟩ : ∃ r, b_Tone_words W self = r := ⟨_, rfl⟩
  replace hb : r ≠ .bad := by rw [← hr0, ← hx]; exact hb
  replace kk : ∀ F2 H2 R v d y, Same F F2 → Own F2 (jnH M R) H2 → (∀ a, R a ≠ none → M a = none) → r = .ok y → (oL (oF sR)) d F2 R v y → d.Nodup → Q v H2 := fun F2 H2 R v d y a b c e => kk F2 H2 R v d y a b c (hx.trans (hr0.trans e))
  have hm := hr0; unfold b_Tone_words at hm
  have sF : Same F F := Same.refl _
  have sh := SH.nil w
  have hq0 : (pR ad.pc) F v0 self := hp0
  have h_self := hq0
  show WSs _ _ _ [some v0] _
  obtain ⟨hd1, hm⟩ := req_of hb hm
  exact ss_retU (EvN.toU (en_lst (r := sR) (ea_consL (ev_catS (ev_catS (ev_strI T.str_n (ev_pitch T.PC (ev_var (r := (pR ad.pc)) 0 rfl h_self) hd1.1) hd1.2.1) ev_str hd1.2.2.1) (ev_strI T.str_n (ev_long T.PC (ev_var (r := (pR ad.pc)) 0 rfl h_self)) hd1.2.2.2.1) hd1.2.2.2.2) ea_nilL))) sh (fun F_ H_ R_ v_ d_ s_ w ap_ ho_ nd_ => kk _ _ _ _ _ _ (sF.trans s_) w ap_ hm.symm ho_ nd_)
theorem ok_Rest_words (T : Txt K mg ad) {W : PT → Rs (List Str)} {L_ : Nat} (IH : ∀ k, FnOk P w K mg base CX0 L_ (ad.mw k) (ad.dw k) ["self"] (spW ad.pc W k)) : FnOk P w K mg base CX0 (L_ + 1) ad.a_Rest_words ad.d_Rest_words ["self"] (spW ad.pc (b_Rest_words W) .rest) := by
  have nd : List.Nodup (α := Str) ["self"] := sc_Rest_words.nd
  refine ok_def T.F_Rest_words sc_Rest_words (fun vs H Q E h => ?_) (fun cdv A outer s H vs Q E hr h => ?_)
  · obtain ⟨F, M, x, ⟨v0, us0, rfl, _, rfl⟩, _⟩ := h; rfl
  obtain ⟨F, M, ⟨self, _⟩, ⟨v0, us0, rfl, hp0, rfl⟩, hb, w, kk⟩ := h
  have hk : self.k = .rest := Classical.byContradiction fun q => hb (if_neg q)
  have hx : (if self.k = .rest then b_Rest_words W self else .bad) = b_Rest_words W self := if_pos hk
  obtain ⟨r, hr0⟩ : ∃ r, b_Rest_words W self = r := ⟨_, rfl⟩
  replace hb : r ≠ .bad := by rw [← hr0, ← hx]; exact hb
  replace kk : ∀ F2 H2 R v d y, Same F F2 → Own F2 (jnH M R) H2 → (∀ a, R a ≠ none → M a = none) → r = .ok y → (oL (oF sR)) d F2 R v y → d.Nodup → Q v H2 := fun F2 H2 R v d y a b c e => kk F2 H2 R v d y a b c (hx.trans (hr0.trans e))
  have hm := hr0; unfold b_Rest_words at hm
  have sF : Same F F := Same.refl _
  have sh := SH.nil w
  have hq0 : (pR ad.pc) F v0 self := hp0
  have h_self := hq0
  show WSs _ _ _ [some v0] _
  obtain ⟨hd1, hm⟩ := req_of hb hm
  exact ss_retU (EvN.toU (en_lst (r := sR) (ea_consL (ev_catS ev_str (ev_strI T.str_n (ev_long T.PC (ev_var (r := (pR ad.pc)) 0 rfl h_self)) hd1.1) hd1.2) ea_nilL))) sh (fun F_ H_ R_ v_ d_ s_ w ap_ ho_ nd_ => kk _ _ _ _ _ _ (sF.trans s_) w ap_ hm.symm ho_ nd_)
theorem ok_Row_words (T : Txt K mg ad) {W : PT → Rs (List Str)} {L_ : Nat} (IH : ∀ k, FnOk P w K mg base CX0 L_ (ad.mw k) (ad.dw k) ["self"] (spW ad.pc W k)) : FnOk P w K mg base CX0 (L_ + 1) ad.a_Row_words ad.d_Row_words ["self"] (spW ad.pc (b_Row_words W) .row) := by
  have nd : List.Nodup (α := Str) ["self", "found", "part"] := sc_Row_words.nd
  refine ok_def T.F_Row_words sc_Row_words (fun vs H Q E h => ?_) (fun cdv A outer s H vs Q E hr h => ?_)
  · obtain ⟨F, M, x, ⟨v0, us0, rfl, _, rfl⟩, _⟩ := h; rfl
  obtain ⟨F, M, ⟨self, _⟩, ⟨v0, us0, rfl, hp0, rfl⟩, hb, w, kk⟩ := h
  have hk : self.k = .row := Classical.byContradiction fun q => hb (if_neg q)
  have hx : (if self.k = .row then b_Row_words W self else .bad) = b_Row_words W self := if_pos hk
  obtain ⟨r, hr0⟩ : ∃ r, b_Row_words W self = r := ⟨_, rfl⟩
  replace hb : r ≠ .bad := by rw [← hr0, ← hx]; exact hb
  replace kk : ∀ F2 H2 R v d y, Same F F2 → Own F2 (jnH M R) H2 → (∀ a, R a ≠ none → M a = none) → r = .ok y → (oL (oF sR)) d F2 R v y → d.Nodup → Q v H2 := fun F2 H2 R v d y a b c e => kk F2 H2 R v d y a b c (hx.trans (hr0.trans e))
  have hm := hr0; unfold b_Row_words at hm
  have sF : Same F F := Same.refl _
  have sh := SH.nil w
  have hq0 : (pR ad.pc) F v0 self := hp0
  have h_self := hq0
  show WSs _ _ _ [some v0, none, none] _
  obtain ⟨found1, e_found1, hm⟩ := bnd_of hm
  refine ss_setU 1 (EvU.eq (EvN.toU (en_lst (r := sR) (ea_consL ev_str ea_nilL))) e_found1.symm) sh (fun F1 M_ H_ v_found1 d_ s1 sh => ?_) nd
  replace sF := sF.trans s1
  replace h_self := Mono.mono s1 h_self
  show WSs _ _ _ [some v0, some v_found1, none] _
  obtain ⟨BL1, KL1, eBL1, eKL1, hm⟩ := forC1_of hm
  refine ss_for 2 (ei_list (r := (pR ad.pc)) (Ev.rs (ev_inner T.PC (ev_var (r := (pR ad.pc)) 0 rfl h_self)))) sh.w (fun i F2 M2 σ2 => ∃ (found2 : (List Str)) (o_part1 : Option V) (d2 : List Addr), σ2 = [some v0, some v_found1, o_part1] ∧ SG M [] (oC (oL (oF sR)) oN) d2 F2 M2 [v_found1] (found2, ()) ∧ forC1 BL1 KL1 (List.drop i self.inner) found2 = r) (fun F_ s_ => ?_) ?_ ?_ ?_ PassesOwn.never nd
  · exact ⟨found1, none, _, rfl, sh.sg.up s_, hm⟩
  · rintro i_ F_ F2_ M_ σ_ s_ ⟨found2, o_part1, d_, e1_, g_, hm_⟩
    exact ⟨found2, o_part1, d_, e1_, g_.up s_, hm_⟩
  · rintro F2 i1 part1 v_part1 F3 M_ H_ σ_ s2 hx1 ⟨found2, o_part1, d_, rfl, sg_, hm⟩ s3 w hi_1
    have sh := sg_.sh w
    replace sF := sF.trans (s2.trans s3)
    replace h_self := Mono.mono (s2.trans s3) h_self
    have hm := forC1_at eBL1 hx1 hm
    have h_part := hi_1
    have sL1 := s3
    show WSs _ _ _ [some v0, some v_found1, some v_part1] _
    obtain ⟨hd1, hm⟩ := req_of hb hm
    refine sh_ext (r := sR) sh (foc_hd sh.g) (ev_val 1 rfl) (Ev.rt (EvU.fz (show EvU _ _ _ _ _ (oL (oF sR)) (W part1).get from ev_pmethU (m := W) (mw := ad.mw) (dw := ad.dw) T.PC T.mw_ IH hr T.bw_ (ev_var (r := (pR ad.pc)) 2 rfl h_part) hd1.1))) hd1.2 (fun F4 M_ H_ d_ s4 sh => ?_)
    replace sF := sF.trans s4
    replace sL1 := sL1.trans s4
    replace h_self := Mono.mono s4 h_self
    replace h_part := Mono.mono s4 h_part
    obtain ⟨found3, e_found3, hm⟩ := bnd_of hm
    rw [← e_found3] at sh
    show WSs _ _ _ [some v0, some v_found1, some v_part1] _
    refine ss_nil ?_
    exact ⟨_, _, sL1, sh.w, found3, (some v_part1), _, rfl, sh.sg, hm⟩
  · rintro F5 M_ H_ σ_ s5 w ⟨found2, o_part1, d_, rfl, sg_, hm⟩
    have sh := sg_.sh w
    replace sF := sF.trans s5
    replace h_self := Mono.mono s5 h_self
    have hm := forC1_end eKL1 hm
    show WSs _ _ _ [some v0, some v_found1, o_part1] _
    obtain ⟨hd2, hm⟩ := req_of hb hm
    refine sh_app (r := sR) sh (foc_hd sh.g) (ev_val 1 rfl) ev_str hd2 (fun F6 M_ H_ d_ s6 sh => ?_)
    replace sF := sF.trans s6
    replace h_self := Mono.mono s6 h_self
    obtain ⟨found4, e_found4, hm⟩ := bnd_of hm
    rw [← e_found4] at sh
    show WSs _ _ _ [some v0, some v_found1, o_part1] _
    exact ss_retV 1 sh rfl (fun R_ d_ w ap_ ho_ nd_ => kk _ _ _ _ _ _ sF w ap_ hm.symm ho_ nd_)
theorem ok_Beside_words (T : Txt K mg ad) {W : PT → Rs (List Str)} {L_ : Nat} (IH : ∀ k, FnOk P w K mg base CX0 L_ (ad.mw k) (ad.dw k) ["self"] (spW ad.pc W k)) : FnOk P w K mg base CX0 (L_ + 1) ad.a_Beside_words ad.d_Beside_words ["self"] (spW ad.pc (b_Beside_words W) .beside) := by
  have nd : List.Nodup (α := Str) ["self", "found", "part"] := sc_Beside_words.nd
  refine ok_def T.F_Beside_words sc_Beside_words (fun vs H Q E h => ?_) (fun cdv A outer s H vs Q E hr h => ?_)
  · obtain ⟨F, M, x, ⟨v0, us0, rfl, _, rfl⟩, _⟩ := h; rfl
  obtain ⟨F, M, ⟨self, _⟩, ⟨v0, us0, rfl, hp0, rfl⟩, hb, w, kk⟩ := h
  have hk : self.k = .beside := Classical.byContradiction fun q => hb (if_neg q)
  have hx : (if self.k = .beside then b_Beside_words W self else .bad) = b_Beside_words W self := if_pos hk
  obtain ⟨r, hr0⟩ : ∃ r, b_Beside_words W self = r := ⟨_, rfl⟩
  replace hb : r ≠ .bad := by rw [← hr0, ← hx]; exact hb
  replace kk : ∀ F2 H2 R v d y, Same F F2 → Own F2 (jnH M R) H2 → (∀ a, R a ≠ none → M a = none) → r = .ok y → (oL (oF sR)) d F2 R v y → d.Nodup → Q v H2 := fun F2 H2 R v d y a b c e => kk F2 H2 R v d y a b c (hx.trans (hr0.trans e))
  have hm := hr0; unfold b_Beside_words at hm
  have sF : Same F F := Same.refl _
  have sh := SH.nil w
  have hq0 : (pR ad.pc) F v0 self := hp0
  have h_self := hq0
  show WSs _ _ _ [some v0, none, none] _
  obtain ⟨found1, e_found1, hm⟩ := bnd_of hm
  refine ss_setU 1 (EvU.eq (EvN.toU (en_lst (r := sR) ea_nilL)) e_found1.symm) sh (fun F1 M_ H_ v_found1 d_ s1 sh => ?_) nd
  replace sF := sF.trans s1
  replace h_self := Mono.mono s1 h_self
  show WSs _ _ _ [some v0, some v_found1, none] _
  obtain ⟨BL1, KL1, eBL1, eKL1, hm⟩ := forC1_of hm
  refine ss_for 2 (ei_list (r := (pR ad.pc)) (Ev.rs (ev_inner T.PC (ev_var (r := (pR ad.pc)) 0 rfl h_self)))) sh.w (fun i F2 M2 σ2 => ∃ (found2 : (List Str)) (o_part1 : Option V) (d2 : List Addr), σ2 = [some v0, some v_found1, o_part1] ∧ SG M [] (oC (oL (oF sR)) oN) d2 F2 M2 [v_found1] (found2, ()) ∧ forC1 BL1 KL1 (List.drop i self.inner) found2 = r) (fun F_ s_ => ?_) ?_ ?_ ?_ PassesOwn.never nd
  · exact ⟨found1, none, _, rfl, sh.sg.up s_, hm⟩
  · rintro i_ F_ F2_ M_ σ_ s_ ⟨found2, o_part1, d_, e1_, g_, hm_⟩
    exact ⟨found2, o_part1, d_, e1_, g_.up s_, hm_⟩
  · rintro F2 i1 part1 v_part1 F3 M_ H_ σ_ s2 hx1 ⟨found2, o_part1, d_, rfl, sg_, hm⟩ s3 w hi_1
    have sh := sg_.sh w
    replace sF := sF.trans (s2.trans s3)
    replace h_self := Mono.mono (s2.trans s3) h_self
    have hm := forC1_at eBL1 hx1 hm
    have h_part := hi_1
    have sL1 := s3
    show WSs _ _ _ [some v0, some v_found1, some v_part1] _
    obtain ⟨hd1, hm⟩ := req_of hb hm
    refine sh_app (r := sR) sh (foc_hd sh.g) (ev_val 1 rfl) ev_str hd1 (fun F4 M_ H_ d_ s4 sh => ?_)
    replace sF := sF.trans s4
    replace sL1 := sL1.trans s4
    replace h_self := Mono.mono s4 h_self
    replace h_part := Mono.mono s4 h_part
    obtain ⟨found3, e_found3, hm⟩ := bnd_of hm
    rw [← e_found3] at sh
    show WSs _ _ _ [some v0, some v_found1, some v_part1] _
    obtain ⟨hd2, hm⟩ := req_of hb hm
    refine sh_ext (r := sR) sh (foc_hd sh.g) (ev_val 1 rfl) (Ev.rt (EvU.fz (show EvU _ _ _ _ _ (oL (oF sR)) (W part1).get from ev_pmethU (m := W) (mw := ad.mw) (dw := ad.dw) T.PC T.mw_ IH hr T.bw_ (ev_var (r := (pR ad.pc)) 2 rfl h_part) hd2.1))) hd2.2 (fun F5 M_ H_ d_ s5 sh => ?_)
    replace sF := sF.trans s5
    replace sL1 := sL1.trans s5
    replace h_self := Mono.mono s5 h_self
    replace h_part := Mono.mono s5 h_part
    obtain ⟨found4, e_found4, hm⟩ := bnd_of hm
    rw [← e_found4] at sh
    show WSs _ _ _ [some v0, some v_found1, some v_part1] _
    refine ss_nil ?_
    exact ⟨_, _, sL1, sh.w, found4, (some v_part1), _, rfl, sh.sg, hm⟩
  · rintro F6 M_ H_ σ_ s6 w ⟨found2, o_part1, d_, rfl, sg_, hm⟩
    have sh := sg_.sh w
    replace sF := sF.trans s6
    replace h_self := Mono.mono s6 h_self
    have hm := forC1_end eKL1 hm
    show WSs _ _ _ [some v0, some v_found1, o_part1] _
    obtain ⟨F7, M_, d_, s7, sh, h_found_⟩ := sh.fz
    replace sF := sF.trans s7
    replace h_self := Mono.mono s7 h_self
    have h_found : (lR sR) F7 v_found1 found2 := h_found_
    show WSs _ _ _ [some v0, some v_found1, o_part1] _
    obtain ⟨hd3, hm⟩ := req_of hb hm
    exact ss_retU (EvN.toU (en_cat (Ev.rt (EvN.fz (en_cat (Ev.rt (EvN.fz (en_lst (r := sR) (ea_consL ev_str ea_nilL)))) (Ev.rt (EvN.fz (en_slice (Ev.rd (ev_var (r := (lR sR)) 1 rfl h_found)) (eo_some ev_int) eo_none))) hd3.1))) (Ev.rt (EvN.fz (en_lst (r := sR) (ea_consL ev_str ea_nilL)))) hd3.2)) sh (fun F_ H_ R_ v_ d_ s_ w ap_ ho_ nd_ => kk _ _ _ _ _ _ (sF.trans s_) w ap_ hm.symm ho_ nd_)
theorem ok_words (T : Txt K mg ad) : ∀ (fu : Nat) (k : PKind), FnOk P w K mg base CX0 (1 + fu) (ad.mw k) (ad.dw k) ["self"] (spW ad.pc (m_words fu) k) := by
  intro fu
  induction fu with
  | zero => intro k; exact fnok_never (spW_never fun t _ => rfl)
  | succ fu IH =>
    intro k
    cases k with
    | tone => rw [spW_eq (m' := b_Tone_words (m_words fu)) (fun t h => by rw [m_words]; simp only [h])]; exact ok_Tone_words T IH
    | rest => rw [spW_eq (m' := b_Rest_words (m_words fu)) (fun t h => by rw [m_words]; simp only [h])]; exact ok_Rest_words T IH
    | row => rw [spW_eq (m' := b_Row_words (m_words fu)) (fun t h => by rw [m_words]; simp only [h])]; exact ok_Row_words T IH
    | rep => exact fnok_never (spW_never fun t h => by rw [m_words]; simp only [h])
    | shift => exact fnok_never (spW_never fun t h => by rw [m_words]; simp only [h])
    | stretch => exact fnok_never (spW_never fun t h => by rw [m_words]; simp only [h])
    | beside => rw [spW_eq (m' := b_Beside_words (m_words fu)) (fun t h => by rw [m_words]; simp only [h])]; exact ok_Beside_words T IH
theorem ok_cell_at (T : Txt K mg ad) : FnOk P w K mg base CX0 1 ad.a_cell_at ad.d_cell_at ["_law_script", "_law_k"] (FSpV (α := (List Int) × Int × Unit) (ac (rsR K iR) (ac iR an)) (fun x => m_cell_at x.1 x.2.1) iR) := by
  have nd : List.Nodup (α := Str) ["_law_script", "_law_k"] := sc_cell_at.nd
  refine ok_def T.F_cell_at sc_cell_at (fun vs H Q E h => ?_) (fun cdv A outer s H vs Q E hr h => ?_)
  · obtain ⟨F, M, x, ⟨_, _, rfl, _, ⟨_, _, rfl, _, rfl⟩⟩, _⟩ := h; rfl
  obtain ⟨F, M, ⟨script, k, _⟩, ⟨v0, us0, rfl, hp0, ⟨v1, us1, rfl, hp1, rfl⟩⟩, hb, w, kk⟩ := h
  obtain ⟨r, hr0⟩ : ∃ r, m_cell_at script k = r := ⟨_, rfl⟩
  replace hb : r ≠ .bad := by rw [← hr0]; exact hb
  replace kk : ∀ F2 H2 v y, Same F F2 → Own F2 M H2 → r = .ok y → iR F2 v y → Q v H2 := fun F2 H2 v y a b c e => kk F2 H2 v y a b (hr0.trans c) e
  have hm := hr0; unfold m_cell_at at hm
  have sF : Same F F := Same.refl _
  have sh := SH.nil w
  have hq0 : (rsR K iR) F v0 script := hp0
  have h_script := hq0
  have hq1 : iR F v1 k := hp1
  cases (show v1 = V.int k from hq1)
  show WSs _ _ _ [some v0, some (.int k)] _
  refine ss_if (bx_lt (ev_var (r := iR) 1 rfl rfl) (ev_len T.len_n (Ev.sd (ev_var (r := (rsR K iR)) 0 rfl h_script)))) sh.w (fun c1 H_ w => ?_) (fun c1 H_ w => ?_)
  · replace hm := ite_t hm c1; replace sh := sh.h w
    obtain ⟨hd1, hm⟩ := req_of hb hm
    exact ss_ret (ev_ix (r := iR) (Ev.sd (ev_var (r := (rsR K iR)) 0 rfl h_script)) (ev_var (r := iR) 1 rfl rfl) hd1) sh.w (fun F1 H_ v_ s1 w hv_ => kk _ _ _ _ (sF.trans s1) (sh.up s1 w).less hm.symm hv_)
  · replace hm := ite_f hm c1; replace sh := sh.h w
    refine ss_nil ?_
    show WSs _ _ _ [some v0, some (.int k)] _
    exact ss_ret ev_int sh.w (fun F2 H_ v_ s2 w hv_ => kk _ _ _ _ (sF.trans s2) (sh.up s2 w).less hm.symm hv_)
theorem ok_whole (T : Txt K mg ad) : FnOk P w K mg base CX0 1 ad.a_whole ad.d_whole ["_law_found"] (FSpV (α := Int × Unit) (ac iR an) (fun x => m_whole x.1) bR) := by
  have nd : List.Nodup (α := Str) ["_law_found"] := sc_whole.nd
  refine ok_def T.F_whole sc_whole (fun vs H Q E h => ?_) (fun cdv A outer s H vs Q E hr h => ?_)
  · obtain ⟨F, M, x, ⟨_, _, rfl, _, rfl⟩, _⟩ := h; rfl
  obtain ⟨F, M, ⟨found, _⟩, ⟨v0, us0, rfl, hp0, rfl⟩, hb, w, kk⟩ := h
  obtain ⟨r, hr0⟩ : ∃ r, m_whole found = r := ⟨_, rfl⟩
  replace hb : r ≠ .bad := by rw [← hr0]; exact hb
  replace kk : ∀ F2 H2 v y, Same F F2 → Own F2 M H2 → r = .ok y → bR F2 v y → Q v H2 := fun F2 H2 v y a b c e => kk F2 H2 v y a b (hr0.trans c) e
  have hm := hr0; unfold m_whole at hm
  have sF : Same F F := Same.refl _
  have sh := SH.nil w
  have hq0 : iR F v0 found := hp0
  cases (show v0 = V.int found from hq0)
  show WSs _ _ _ [some (.int found)] _
  exact ss_ret (Bx.ev (bx_l (bl_and (bx_isi (S := "int") (S' := "int") (k := true) T.isinstance_n T.int_n (by decide +kernel) (ev_var (r := iR) 0 rfl rfl) (by decide +kernel)) fun g1 => (bl_one_and (bx_not (bx_isi (S := "int") (S' := "bool") (k := false) T.isinstance_n T.bool_n (by decide +kernel) (ev_var (r := iR) 0 rfl rfl) (by decide +kernel))))))) sh.w (fun F1 H_ v_ s1 w hv_ => kk _ _ _ _ (sF.trans s1) (sh.up s1 w).less hm.symm hv_)
theorem ok_kinds (T : Txt K mg ad) : FnHp P w K mg base 1 ad.a_kinds ad.d_kinds ["_law_e"] (fun x vs H Q _ => vs = [V.ref x.1] ∧ ((Zc (.ref ad.c_NoPart) none x.2 ∧ ∃ vs, x.2.data = .fields vs) ∧ m_kinds () ≠ .bad) ∧ ∃ F M, Own F M H ∧ ∀ F2 H2, Same F F2 → Own F2 M H2 → Q (.bl (m_kinds ()).get) H2) := by
  have nd : List.Nodup (α := Str) ["_law_e", "_law_some"] := sc_kinds.nd
  refine ok_hot T.F_kinds sc_kinds (fun p vs H Q E h => ?_) (fun cdv A outer s H vs Q E p hr h => ?_)
  · obtain ⟨rfl, _⟩ := h; rfl
  obtain ⟨rfl, ⟨⟨hz, hf⟩, hb⟩, F, M, w, kk⟩ := h
  obtain ⟨r, hr0⟩ : ∃ r, m_kinds () = r := ⟨_, rfl⟩
  replace hb : r ≠ .bad := by rw [← hr0]; exact hb
  replace kk : ∀ F2 H2 v y, Same F F2 → Own F2 M H2 → r = .ok y → bR F2 v y → Q v H2 := fun F2 H2 v y a b e h => by cases (show v = V.bl y from h); rw [show y = (m_kinds ()).get by rw [hr0, e] <;> rfl]; exact kk F2 H2 a b
  have hm := hr0; unfold m_kinds at hm
  have sF : Same F F := Same.refl _
  have sh := SH.nil w
  show WSs _ _ _ [some (.ref p.1), none] _
  obtain ⟨some_1, e_some_1, hm⟩ := bnd_of hm
  refine ss_set 1 (Ev.eq (EvN.fz (en_lst (r := bR) (ea_consL (Bx.ev (bx_isXo 0 T.xc_NoPart (List.mem_cons_self ..) hz hf T.isinstance_n rfl T.k_NoText T.kt_NoPart_NoText)) (ea_consL (Bx.ev (bx_isXo 0 T.xc_NoPart (List.mem_cons_self ..) hz hf T.isinstance_n rfl T.k_Near T.kt_NoPart_Near)) (ea_consL (Bx.ev (bx_isXo 0 T.xc_NoPart (List.mem_cons_self ..) hz hf T.isinstance_n rfl T.k_NoSeam T.kt_NoPart_NoSeam)) (ea_consL (Bx.ev (bx_isXo 0 T.xc_NoPart (List.mem_cons_self ..) hz hf T.isinstance_n rfl T.k_NoBarrel T.kt_NoPart_NoBarrel)) ea_nilL)))))) e_some_1.symm) sh.w (fun F1 H_ v_some_1 s1 w (hn_ : (lR bR) F1 v_some_1 some_1) => ?_) nd
  replace sF := sF.trans s1
  replace sh := sh.up s1 w
  have h_some_ := hn_
  show WSs _ _ _ [some (.ref p.1), some v_some_1] _
  obtain ⟨hd1, hm⟩ := req_of hb hm
  obtain ⟨some_2, e_some_2, hm⟩ := bnd_of hm
  refine ss_set 1 (Ev.eq (EvN.fz (en_cat (Ev.rt (ev_var (r := (lR bR)) 1 rfl h_some_)) (Ev.rt (EvN.fz (en_lst (r := bR) (ea_consL (Bx.ev (bx_isXo 0 T.xc_NoPart (List.mem_cons_self ..) hz hf T.isinstance_n rfl T.k_NoName T.kt_NoPart_NoName)) (ea_consL (Bx.ev (bx_isXo 0 T.xc_NoPart (List.mem_cons_self ..) hz hf T.isinstance_n rfl T.k_NoSense T.kt_NoPart_NoSense)) (ea_consL (Bx.ev (bx_isXo 0 T.xc_NoPart (List.mem_cons_self ..) hz hf T.isinstance_n rfl T.k_NoRow T.kt_NoPart_NoRow)) ea_nilL)))))) hd1)) e_some_2.symm) sh.w (fun F2 H_ v_some_2 s2 w (hn_ : (lR bR) F2 v_some_2 some_2) => ?_) nd
  replace sF := sF.trans s2
  replace sh := sh.up s2 w
  have h_some_ := hn_
  show WSs _ _ _ [some (.ref p.1), some v_some_2] _
  exact ss_ret (Bx.ev (bx_l (bl_and (bx_isXo 0 T.xc_NoPart (List.mem_cons_self ..) hz hf T.isinstance_n rfl T.k_WorksError T.kt_NoPart_WorksError) fun g1 => (bl_and (bx_isXb 0 T.xc_NoPart (List.mem_cons_self ..) hz hf T.isinstance_n rfl T.ValueError_n rfl T.kt_NoPart_ValueError) fun g2 => (bl_one_and (bx_niB ev_bl (Ev.rd (ev_var (r := (lR bR)) 1 rfl h_some_)))))))) sh.w (fun F3 H_ v_ s3 w hv_ => kk _ _ _ _ (sF.trans s3) (sh.up s3 w).less hm.symm hv_)
theorem ok_are (T : Txt K mg ad) : FnOk P w K mg base CX0 15 ad.a_are ad.d_are ["_law_part", "_law_due"] (FSpV (α := PT × (Int × Int × Int × Int × (Option Int) × (Option Int) × (List Str)) × Unit) (ac (pR ad.pc) (ac (hnR (rC iR (rC iR (rC iR (rC iR (rC (oR iR) (rC (oR iR) (rO (lR sR))))))))) an)) (fun x => m_are x.1 x.2.1) bR) := by
  have nd : List.Nodup (α := Str) ["_law_part", "_law_due", "_law_found", "_law_ends_here", "_law_number", "_law_end", "_law_words", "_law_word"] := sc_are.nd
  refine ok_def T.F_are sc_are (fun vs H Q E h => ?_) (fun cdv A outer s H vs Q E hr h => ?_)
  · obtain ⟨F, M, x, ⟨_, _, rfl, _, ⟨_, _, rfl, _, rfl⟩⟩, _⟩ := h; rfl
  obtain ⟨F, M, ⟨part, due, _⟩, ⟨v0, us0, rfl, hp0, ⟨v1, us1, rfl, hp1, rfl⟩⟩, hb, w, kk⟩ := h
  obtain ⟨r, hr0⟩ : ∃ r, m_are part due = r := ⟨_, rfl⟩
  replace hb : r ≠ .bad := by rw [← hr0]; exact hb
  replace kk : ∀ F2 H2 v y, Same F F2 → Own F2 M H2 → r = .ok y → bR F2 v y → Q v H2 := fun F2 H2 v y a b c e => kk F2 H2 v y a b (hr0.trans c) e
  have hm := hr0; unfold m_are at hm
  have sF : Same F F := Same.refl _
  have sh := SH.nil w
  have hq0 : (pR ad.pc) F v0 part := hp0
  have h_part := hq0
  have hq1 : (hnR (rC iR (rC iR (rC iR (rC iR (rC (oR iR) (rC (oR iR) (rO (lR sR))))))))) F v1 due := hp1
  have h_due := hq1
  show WSs _ _ _ [some v0, some v1, none, none, none, none, none, none] _
  obtain ⟨found1, e_found1, hm⟩ := bnd_of hm
  refine ss_set 2 (Ev.eq (EvN.fz (en_lst (r := iR) (ea_consL (ev_pmethE (y := part.m.cells) T.PC (T.me_cells _) (ok_Part_cells T) (hr.mono (by decide)) T.b_Part_cells (ev_var (r := (pR ad.pc)) 0 rfl h_part) rfl) (ea_consL (ev_pmethE (y := part.m.leaves) T.PC (T.me_leaves _) (ok_Part_leaves T) (hr.mono (by decide)) T.b_Part_leaves (ev_var (r := (pR ad.pc)) 0 rfl h_part) rfl) (ea_consL (ev_pmethE (y := part.m.size) T.PC (T.me_size _) (ok_Part_size T) (hr.mono (by decide)) T.b_Part_size (ev_var (r := (pR ad.pc)) 0 rfl h_part) rfl) (ea_consL (ev_pmethE (y := part.m.depth) T.PC (T.me_depth _) (ok_Part_depth T) (hr.mono (by decide)) T.b_Part_depth (ev_var (r := (pR ad.pc)) 0 rfl h_part) rfl) ea_nilL)))))) e_found1.symm) sh.w (fun F1 H_ v_found1 s1 w (hn_ : (lR iR) F1 v_found1 found1) => ?_) nd
  replace sF := sF.trans s1
  replace h_part := Mono.mono s1 h_part
  replace h_due := Mono.mono s1 h_due
  replace sh := sh.up s1 w
  have h_found := hn_
  show WSs _ _ _ [some v0, some v1, some v_found1, none, none, none, none, none] _
  obtain ⟨ends_here1, e_ends_here1, hm⟩ := bnd_of hm
  refine ss_set 3 (Ev.eq (EvN.fz (en_lst (r := (oR iR)) (ea_consL (ev_pmethE (y := part.m.low) T.PC (T.me_lowest _) (ok_Part_lowest T) (hr.mono (by decide)) T.b_Part_lowest (ev_var (r := (pR ad.pc)) 0 rfl h_part) rfl) (ea_consL (ev_pmethE (y := part.m.high) T.PC (T.me_highest _) (ok_Part_highest T) (hr.mono (by decide)) T.b_Part_highest (ev_var (r := (pR ad.pc)) 0 rfl h_part) rfl) ea_nilL)))) e_ends_here1.symm) sh.w (fun F2 H_ v_ends_here1 s2 w (hn_ : (lR (oR iR)) F2 v_ends_here1 ends_here1) => ?_) nd
  replace sF := sF.trans s2
  replace h_part := Mono.mono s2 h_part
  replace h_due := Mono.mono s2 h_due
  replace h_found := Mono.mono s2 h_found
  replace sh := sh.up s2 w
  have h_ends_here := hn_
  show WSs _ _ _ [some v0, some v1, some v_found1, some v_ends_here1, none, none, none, none] _
  obtain ⟨hd1, hm⟩ := req_of hb hm
  obtain ⟨BL1, KL1, eBL1, eKL1, hm⟩ := forC0_of hm
  refine ss_for 4 (ei_list (r := iR) (Ev.rs (EvN.fz (en_cat (Ev.rt (ev_var (r := (lR iR)) 2 rfl h_found)) (Ev.rt (EvN.fz (en_lc (r := (oR iR)) (s := iR) (hb := show blkC ["_law_part", "_law_due", "_law_found", "_law_ends_here", "_law_number", "_law_end", "_law_words", "_law_word"] (defScope s_are) _ [("_law_end", 5)] = true from by decide +kernel) 5 (fun (end__c1 : (Option Int)) => (!Option.isNone end__c1)) (fun (end__c1 : (Option Int)) => (oG end__c1)) (ei_list (r := (oR iR)) (Ev.rs (ev_var (r := (lR (oR iR))) 3 rfl h_ends_here))) (fun end__c1 vend__c1 Fc1 Mc1 hm1 sc1 sm1 hend__c1 Y hY => by obtain ⟨_, _, _, _, _, rfl⟩ := hY; have u1 := Mono.sub sc1 h_ends_here; exact ⟨(ets_one (bx_isNot (ev_var (r := (oR iR)) 5 rfl hend__c1))), fun g1 => (Ev.oget (ev_var (r := (oR iR)) 5 rfl hend__c1) (oG_not g1))⟩) hd1.1 nd))) hd1.2)))) sh.w (fun i F2 M2 σ2 => ∃ (o_number1 : Option V) (d2 : List Addr), σ2 = [some v0, some v1, some v_found1, some v_ends_here1, o_number1, none, none, none] ∧ SG M [] oN d2 F2 M2 [] (()) ∧ forC0 BL1 KL1 (List.drop i (found1 ++ ((ends_here1.filter (fun (end__c1 : (Option Int)) => (!Option.isNone end__c1))).map (fun (end__c1 : (Option Int)) => (oG end__c1))))) = r) (fun F_ s_ => ?_) ?_ ?_ ?_ PassesOwn.never nd
  · exact ⟨none, _, rfl, sh.sg.up s_, hm⟩
  · rintro i_ F_ F2_ M_ σ_ s_ ⟨o_number1, d_, e1_, g_, hm_⟩
    exact ⟨o_number1, d_, e1_, g_.up s_, hm_⟩
  · rintro F3 i1 number1 v_number1 F4 M_ H_ σ_ s3 hx1 ⟨o_number1, d_, rfl, sg_, hm⟩ s4 w hi_1
    have sh := sg_.sh w
    replace sF := sF.trans (s3.trans s4)
    replace h_part := Mono.mono (s3.trans s4) h_part
    replace h_due := Mono.mono (s3.trans s4) h_due
    replace h_found := Mono.mono (s3.trans s4) h_found
    replace h_ends_here := Mono.mono (s3.trans s4) h_ends_here
    have hm := forC0_at eBL1 hx1 hm
    cases (show v_number1 = V.int number1 from hi_1)
    have sL1 := s4
    show WSs _ _ _ [some v0, some v1, some v_found1, some v_ends_here1, some (.int number1), none, none, none] _
    obtain ⟨hd2, hm⟩ := req_of hb hm
    refine ss_if (bx_not (bx_val (show EvF _ _ _ _ _ bR (m_whole number1).get from ev_callV (x := (number1, ())) (ok_whole T) (hr.mono (by decide)) T.g_whole T.F_whole.kp T.b_whole (ea_cons (r := iR) (ev_var (r := iR) 4 rfl rfl) ea_nil) hd2))) sh.w (fun c2 H_ w => ?_) (fun c2 H_ w => ?_)
    · replace hm := ite_t hm c2; replace sh := sh.h w
      exact ss_ret ev_bl sh.w (fun F5 H_ v_ s5 w hv_ => kk _ _ _ _ (sF.trans s5) (sh.up s5 w).less hm.symm hv_)
    · replace hm := ite_f hm c2; replace sh := sh.h w
      refine ss_nil ?_
      show WSs _ _ _ [some v0, some v1, some v_found1, some v_ends_here1, some (.int number1), none, none, none] _
      refine ss_nil ?_
      exact ⟨_, _, sL1, sh.w, (some (.int number1)), _, rfl, sh.sg, hm⟩
  · rintro F6 M_ H_ σ_ s6 w ⟨o_number1, d_, rfl, sg_, hm⟩
    have sh := sg_.sh w
    replace sF := sF.trans s6
    replace h_part := Mono.mono s6 h_part
    replace h_due := Mono.mono s6 h_due
    replace h_found := Mono.mono s6 h_found
    replace h_ends_here := Mono.mono s6 h_ends_here
    have hm := forC0_end eKL1 hm
    show WSs _ _ _ [some v0, some v1, some v_found1, some v_ends_here1, o_number1, none, none, none] _
    obtain ⟨hd3, hm⟩ := req_of hb hm
    obtain ⟨words1, e_words1, hm⟩ := bnd_of hm
    refine ss_set 6 (Ev.eq (EvU.fz (show EvU _ _ _ _ _ (oL (oF sR)) ((m_words 13) part).get from ev_pmethU (m := (m_words 13)) (mw := ad.mw) (dw := ad.dw) T.PC T.mw_ (fun k_ => ok_words T 13 k_) (hr.mono (by decide)) T.bw_ (ev_var (r := (pR ad.pc)) 0 rfl h_part) hd3)) e_words1.symm) sh.w (fun F7 H_ v_words1 s7 w (hn_ : (lR sR) F7 v_words1 words1) => ?_) nd
    replace sF := sF.trans s7
    replace h_part := Mono.mono s7 h_part
    replace h_due := Mono.mono s7 h_due
    replace h_found := Mono.mono s7 h_found
    replace h_ends_here := Mono.mono s7 h_ends_here
    replace sh := sh.up s7 w
    have h_words := hn_
    show WSs _ _ _ [some v0, some v1, some v_found1, some v_ends_here1, o_number1, none, some v_words1, none] _
    refine ss_if (bx_not (bx_isi (S := "list") (S' := "list") (k := true) T.isinstance_n T.list_n (by decide +kernel) (ev_var (r := (lR sR)) 6 rfl h_words) (by decide +kernel))) sh.w (fun c3 H_ w => ?_) (fun c3 H_ w => ?_)
    · replace hm := ite_t hm c3; replace sh := sh.h w
      exact ss_ret ev_bl sh.w (fun F8 H_ v_ s8 w hv_ => kk _ _ _ _ (sF.trans s8) (sh.up s8 w).less hm.symm hv_)
    · replace hm := ite_f hm c3; replace sh := sh.h w
      refine ss_nil ?_
      show WSs _ _ _ [some v0, some v1, some v_found1, some v_ends_here1, o_number1, none, some v_words1, none] _
      obtain ⟨BL2, KL2, eBL2, eKL2, hm⟩ := forC0_of hm
      refine ss_for 7 (ei_list (r := sR) (Ev.rs (ev_var (r := (lR sR)) 6 rfl h_words))) sh.w (fun i F2 M2 σ2 => ∃ (o_word1 : Option V) (d2 : List Addr), σ2 = [some v0, some v1, some v_found1, some v_ends_here1, o_number1, none, some v_words1, o_word1] ∧ SG M [] oN d2 F2 M2 [] (()) ∧ forC0 BL2 KL2 (List.drop i words1) = r) (fun F_ s_ => ?_) ?_ ?_ ?_ PassesOwn.never nd
      · exact ⟨none, _, rfl, sh.sg.up s_, hm⟩
      · rintro i_ F_ F2_ M_ σ_ s_ ⟨o_word1, d_, e1_, g_, hm_⟩
        exact ⟨o_word1, d_, e1_, g_.up s_, hm_⟩
      · rintro F9 i2 word1 v_word1 F10 M_ H_ σ_ s9 hx2 ⟨o_word1, d_, rfl, sg_, hm⟩ s10 w hi_2
        have sh := sg_.sh w
        replace sF := sF.trans (s9.trans s10)
        replace h_due := Mono.mono (s9.trans s10) h_due
        replace h_found := Mono.mono (s9.trans s10) h_found
        replace h_ends_here := Mono.mono (s9.trans s10) h_ends_here
        replace h_words := Mono.mono (s9.trans s10) h_words
        have hm := forC0_at eBL2 hx2 hm
        obtain ⟨rfl, h_word⟩ := hi_2
        have sL2 := s10
        show WSs _ _ _ [some v0, some v1, some v_found1, some v_ends_here1, o_number1, none, some v_words1, some (.str word1)] _
        refine ss_if (bx_not (bx_isi (S := "str") (S' := "str") (k := true) T.isinstance_n T.str_n (by decide +kernel) (ev_var (r := sR) 7 rfl ⟨rfl, h_word⟩) (by decide +kernel))) sh.w (fun c4 H_ w => ?_) (fun c4 H_ w => ?_)
        · replace hm := ite_t hm c4; replace sh := sh.h w
          exact ss_ret ev_bl sh.w (fun F11 H_ v_ s11 w hv_ => kk _ _ _ _ (sF.trans s11) (sh.up s11 w).less hm.symm hv_)
        · replace hm := ite_f hm c4; replace sh := sh.h w
          refine ss_nil ?_
          show WSs _ _ _ [some v0, some v1, some v_found1, some v_ends_here1, o_number1, none, some v_words1, some (.str word1)] _
          refine ss_nil ?_
          exact ⟨_, _, sL2, sh.w, (some (.str word1)), _, rfl, sh.sg, hm⟩
      · rintro F12 M_ H_ σ_ s12 w ⟨o_word1, d_, rfl, sg_, hm⟩
        have sh := sg_.sh w
        replace sF := sF.trans s12
        replace h_due := Mono.mono s12 h_due
        replace h_found := Mono.mono s12 h_found
        replace h_ends_here := Mono.mono s12 h_ends_here
        replace h_words := Mono.mono s12 h_words
        have hm := forC0_end eKL2 hm
        show WSs _ _ _ [some v0, some v1, some v_found1, some v_ends_here1, o_number1, none, some v_words1, o_word1] _
        obtain ⟨hd4, hm⟩ := req_of hb hm
        exact ss_ret (Bx.ev (bx_l (bl_and (bx_eqT hr.units (Ev.rt (EvN.fz (en_cat (Ev.rt (Ev.lsome (ev_var (r := (lR iR)) 2 rfl h_found))) (Ev.rt (ev_var (r := (lR (oR iR))) 3 rfl h_ends_here)) hd4))) (Ev.rt (EvN.fz (en_h7cut6 (x := due) (ev_var (r := (hnR (rC iR (rC iR (rC iR (rC iR (rC (oR iR) (rC (oR iR) (rO (lR sR)))))))))) 1 rfl h_due))))) fun g2 => (bl_one_and (bx_eqT hr.units (Ev.rt (ev_var (r := (lR sR)) 6 rfl h_words)) (Ev.rt (ev_hnix (x := due) (r := (lR sR)) 6 (ev_var (r := (hnR (rC iR (rC iR (rC iR (rC iR (rC (oR iR) (rC (oR iR) (rO (lR sR)))))))))) 1 rfl h_due) (by rfl) (fun F vs h => (rC.tl h fun vs h => (rC.tl h fun vs h => (rC.tl h fun vs h => (rC.tl h fun vs h => (rC.tl h fun vs h => (rC.tl h fun vs h => (rO.at h))))))))))))))) sh.w (fun F13 H_ v_ s13 w hv_ => kk _ _ _ _ (sF.trans s13) (sh.up s13 w).less hm.symm hv_)
theorem ok_leaf (T : Txt K mg ad) : FnOk P w K mg base CX0 1 ad.a_leaf ad.d_leaf ["_law_cell"] (FSpV (α := Int × Unit) (ac iR an) (fun x => m_leaf x.1) (hnR (rC iR (rC iR (rC iR (rC iR (rC (oR iR) (rC (oR iR) (rO (lR sR)))))))))) := by
  have nd : List.Nodup (α := Str) ["_law_cell", "_law_number", "_law_pitch", "_law_cells"] := sc_leaf.nd
  refine ok_def T.F_leaf sc_leaf (fun vs H Q E h => ?_) (fun cdv A outer s H vs Q E hr h => ?_)
  · obtain ⟨F, M, x, ⟨_, _, rfl, _, rfl⟩, _⟩ := h; rfl
  obtain ⟨F, M, ⟨cell, _⟩, ⟨v0, us0, rfl, hp0, rfl⟩, hb, w, kk⟩ := h
  obtain ⟨r, hr0⟩ : ∃ r, m_leaf cell = r := ⟨_, rfl⟩
  replace hb : r ≠ .bad := by rw [← hr0]; exact hb
  replace kk : ∀ F2 H2 v y, Same F F2 → Own F2 M H2 → r = .ok y → (hnR (rC iR (rC iR (rC iR (rC iR (rC (oR iR) (rC (oR iR) (rO (lR sR))))))))) F2 v y → Q v H2 := fun F2 H2 v y a b c e => kk F2 H2 v y a b (hr0.trans c) e
  have hm := hr0; unfold m_leaf at hm
  have sF : Same F F := Same.refl _
  have sh := SH.nil w
  have hq0 : iR F v0 cell := hp0
  cases (show v0 = V.int cell from hq0)
  show WSs _ _ _ [some (.int cell), none, none, none] _
  obtain ⟨number1, e_number1, hm⟩ := bnd_of hm
  refine ss_setI 1 (Ev.eq (ev_div (ev_var (r := iR) 0 rfl rfl) ev_int) e_number1.symm) sh.w (fun H_ w => ?_) nd
  replace sh := sh.h w
  show WSs _ _ _ [some (.int cell), some (.int number1), none, none] _
  obtain ⟨pitch1, e_pitch1, hm⟩ := bnd_of hm
  refine ss_setI 2 (Ev.eq (ev_mod (ev_var (r := iR) 1 rfl rfl) ev_int) e_pitch1.symm) sh.w (fun H_ w => ?_) nd
  replace sh := sh.h w
  show WSs _ _ _ [some (.int cell), some (.int number1), some (.int pitch1), none] _
  obtain ⟨cells1, e_cells1, hm⟩ := bnd_of hm
  refine ss_setI 3 (Ev.eq (ev_add ev_int (ev_mod (ev_div (ev_var (r := iR) 1 rfl rfl) ev_int) ev_int)) e_cells1.symm) sh.w (fun H_ w => ?_) nd
  replace sh := sh.h w
  show WSs _ _ _ [some (.int cell), some (.int number1), some (.int pitch1), some (.int cells1)] _
  refine ss_if (bx_eqI (ev_mod (ev_var (r := iR) 0 rfl rfl) ev_int) ev_int) sh.w (fun c1 H_ w => ?_) (fun c1 H_ w => ?_)
  · replace hm := ite_t hm c1; replace sh := sh.h w
    obtain ⟨hd1, hm⟩ := req_of hb hm
    exact ss_ret (ev_hn (er_cons (r := iR) (ev_var (r := iR) 3 rfl rfl) (er_cons (r := iR) ev_int (er_cons (r := iR) ev_int (er_cons (r := iR) ev_int (er_cons (r := (oR iR)) (ev_noneO (r := iR)) (er_cons (r := (oR iR)) (ev_noneO (r := iR)) (er_one (r := (lR sR)) (EvN.fz (en_lst (r := sR) (ea_consL (ev_catS ev_str (ev_strI T.str_n (ev_var (r := iR) 3 rfl rfl) hd1.1) hd1.2) ea_nilL))))))))))) sh.w (fun F1 H_ v_ s1 w hv_ => kk _ _ _ _ (sF.trans s1) (sh.up s1 w).less hm.symm hv_)
  · replace hm := ite_f hm c1; replace sh := sh.h w
    refine ss_nil ?_
    show WSs _ _ _ [some (.int cell), some (.int number1), some (.int pitch1), some (.int cells1)] _
    obtain ⟨hd2, hm⟩ := req_of hb hm
    exact ss_ret (ev_hn (er_cons (r := iR) (ev_var (r := iR) 3 rfl rfl) (er_cons (r := iR) ev_int (er_cons (r := iR) ev_int (er_cons (r := iR) ev_int (er_cons (r := (oR iR)) (Ev.someO (r := iR) (ev_var (r := iR) 2 rfl rfl)) (er_cons (r := (oR iR)) (Ev.someO (r := iR) (ev_var (r := iR) 2 rfl rfl)) (er_one (r := (lR sR)) (EvN.fz (en_lst (r := sR) (ea_consL (ev_catS (ev_catS (ev_strI T.str_n (ev_var (r := iR) 2 rfl rfl) hd2.1) ev_str hd2.2.1) (ev_strI T.str_n (ev_var (r := iR) 3 rfl rfl) hd2.2.2.1) hd2.2.2.2) ea_nilL))))))))))) sh.w (fun F2 H_ v_ s2 w hv_ => kk _ _ _ _ (sF.trans s2) (sh.up s2 w).less hm.symm hv_)
theorem ok_made_leaf (T : Txt K mg ad) : FnOk P w K mg base CX0 5 ad.a_made_leaf ad.d_made_leaf ["_law_leaf_here"] (FSpV (α := (Int × Int × Int × Int × (Option Int) × (Option Int) × (List Str)) × Unit) (ac (hnR (rC iR (rC iR (rC iR (rC iR (rC (oR iR) (rC (oR iR) (rO (lR sR))))))))) an) (fun x => m_made_leaf x.1) (pR ad.pc)) := by
  have nd : List.Nodup (α := Str) ["_law_leaf_here"] := sc_made_leaf.nd
  refine ok_def T.F_made_leaf sc_made_leaf (fun vs H Q E h => ?_) (fun cdv A outer s H vs Q E hr h => ?_)
  · obtain ⟨F, M, x, ⟨_, _, rfl, _, rfl⟩, _⟩ := h; rfl
  obtain ⟨F, M, ⟨leaf_here, _⟩, ⟨v0, us0, rfl, hp0, rfl⟩, hb, w, kk⟩ := h
  obtain ⟨r, hr0⟩ : ∃ r, m_made_leaf leaf_here = r := ⟨_, rfl⟩
  replace hb : r ≠ .bad := by rw [← hr0]; exact hb
  replace kk : ∀ F2 H2 v y, Same F F2 → Own F2 M H2 → r = .ok y → (pR ad.pc) F2 v y → Q v H2 := fun F2 H2 v y a b c e => kk F2 H2 v y a b (hr0.trans c) e
  have hm := hr0; unfold m_made_leaf at hm
  have sF : Same F F := Same.refl _
  have sh := SH.nil w
  have hq0 : (hnR (rC iR (rC iR (rC iR (rC iR (rC (oR iR) (rC (oR iR) (rO (lR sR))))))))) F v0 leaf_here := hp0
  have h_leaf_here := hq0
  show WSs _ _ _ [some v0] _
  refine ss_if (bx_isN (ev_hnix (x := leaf_here) (r := (oR iR)) 4 (ev_var (r := (hnR (rC iR (rC iR (rC iR (rC iR (rC (oR iR) (rC (oR iR) (rO (lR sR)))))))))) 0 rfl h_leaf_here) (by rfl) (fun F vs h => (rC.tl h fun vs h => (rC.tl h fun vs h => (rC.tl h fun vs h => (rC.tl h fun vs h => (rC.hd h)))))))) sh.w (fun c1 H_ w => ?_) (fun c1 H_ w => ?_)
  · replace hm := ite_t hm c1; replace sh := sh.h w
    obtain ⟨hd1, hm⟩ := req_of hb hm
    exact ss_ret (show EvF _ _ _ _ _ (pR ad.pc) (m_Rest_init leaf_here.1).get from ev_makeP (pc := ad.pc) (kk := .rest) (x := (leaf_here.1, ())) takes0 T.mk_Rest (ok_Rest_init T) (hr.mono (by decide)) T.pk_Rest T.b_Rest_init (ea_cons (r := iR) (ev_hnix (x := leaf_here) (r := iR) 0 (ev_var (r := (hnR (rC iR (rC iR (rC iR (rC iR (rC (oR iR) (rC (oR iR) (rO (lR sR)))))))))) 0 rfl h_leaf_here) (by rfl) (fun F vs h => (rC.hd h))) ea_nil) hd1) sh.w (fun F1 H_ v_ s1 w hv_ => kk _ _ _ _ (sF.trans s1) (sh.up s1 w).less hm.symm hv_)
  · replace hm := ite_f hm c1; replace sh := sh.h w
    refine ss_nil ?_
    show WSs _ _ _ [some v0] _
    obtain ⟨hd2, hm⟩ := req_of hb hm
    exact ss_ret (show EvF _ _ _ _ _ (pR ad.pc) (m_Tone_init (oG leaf_here.2.2.2.2.1) leaf_here.1).get from ev_makeP (pc := ad.pc) (kk := .tone) (x := ((oG leaf_here.2.2.2.2.1), leaf_here.1, ())) takes0 T.mk_Tone (ok_Tone_init T) (hr.mono (by decide)) T.pk_Tone T.b_Tone_init (ea_cons (r := iR) (Ev.oget (ev_hnix (x := leaf_here) (r := (oR iR)) 4 (ev_var (r := (hnR (rC iR (rC iR (rC iR (rC iR (rC (oR iR) (rC (oR iR) (rO (lR sR)))))))))) 0 rfl h_leaf_here) (by rfl) (fun F vs h => (rC.tl h fun vs h => (rC.tl h fun vs h => (rC.tl h fun vs h => (rC.tl h fun vs h => (rC.hd h))))))) (oG_is c1)) (ea_cons (r := iR) (ev_hnix (x := leaf_here) (r := iR) 0 (ev_var (r := (hnR (rC iR (rC iR (rC iR (rC iR (rC (oR iR) (rC (oR iR) (rO (lR sR)))))))))) 0 rfl h_leaf_here) (by rfl) (fun F vs h => (rC.hd h))) ea_nil)) hd2) sh.w (fun F2 H_ v_ s2 w hv_ => kk _ _ _ _ (sF.trans s2) (sh.up s2 w).less hm.symm hv_)
theorem ok_ends (T : Txt K mg ad) : FnOk P w K mg base CX0 1 ad.a_ends ad.d_ends ["_law_some"] (FSpV (α := (List (Int × Int × Int × Int × (Option Int) × (Option Int) × (List Str))) × Unit) (ac (lR (hnR (rC iR (rC iR (rC iR (rC iR (rC (oR iR) (rC (oR iR) (rO (lR sR)))))))))) an) (fun x => m_ends x.1) (h2R (oR iR) (oR iR))) := by
  have nd : List.Nodup (α := Str) ["_law_some", "_law_lows", "_law_due", "_law_highs"] := sc_ends.nd
  refine ok_def T.F_ends sc_ends (fun vs H Q E h => ?_) (fun cdv A outer s H vs Q E hr h => ?_)
  · obtain ⟨F, M, x, ⟨_, _, rfl, _, rfl⟩, _⟩ := h; rfl
  obtain ⟨F, M, ⟨some_, _⟩, ⟨v0, us0, rfl, hp0, rfl⟩, hb, w, kk⟩ := h
  obtain ⟨r, hr0⟩ : ∃ r, m_ends some_ = r := ⟨_, rfl⟩
  replace hb : r ≠ .bad := by rw [← hr0]; exact hb
  replace kk : ∀ F2 H2 v y, Same F F2 → Own F2 M H2 → r = .ok y → (h2R (oR iR) (oR iR)) F2 v y → Q v H2 := fun F2 H2 v y a b c e => kk F2 H2 v y a b (hr0.trans c) e
  have hm := hr0; unfold m_ends at hm
  have sF : Same F F := Same.refl _
  have sh := SH.nil w
  have hq0 : (lR (hnR (rC iR (rC iR (rC iR (rC iR (rC (oR iR) (rC (oR iR) (rO (lR sR)))))))))) F v0 some_ := hp0
  have h_some_ := hq0
  show WSs _ _ _ [some v0, none, none, none] _
  obtain ⟨hd1, hm⟩ := req_of hb hm
  obtain ⟨lows1, e_lows1, hm⟩ := bnd_of hm
  refine ss_lc (r := (hnR (rC iR (rC iR (rC iR (rC iR (rC (oR iR) (rC (oR iR) (rO (lR sR)))))))))) (s := iR) (hb := show blkC ["_law_some", "_law_lows", "_law_due", "_law_highs"] (defScope s_ends) _ [("_law_due", 2)] = true from by decide +kernel) 1 2 (fun (due_c1 : (Int × Int × Int × Int × (Option Int) × (Option Int) × (List Str))) => (!Option.isNone due_c1.2.2.2.2.1)) (fun (due_c1 : (Int × Int × Int × Int × (Option Int) × (Option Int) × (List Str))) => (oG due_c1.2.2.2.2.1)) (ei_list (r := (hnR (rC iR (rC iR (rC iR (rC iR (rC (oR iR) (rC (oR iR) (rO (lR sR)))))))))) (Ev.rs (ev_var (r := (lR (hnR (rC iR (rC iR (rC iR (rC iR (rC (oR iR) (rC (oR iR) (rO (lR sR))))))))))) 0 rfl h_some_))) (fun due_c1 vdue_c1 Fc1 Mc1 hm1 sc1 sm1 hdue_c1 Y hY => by obtain ⟨_, _, _, _, _, rfl⟩ := hY; have u1 := Mono.sub sc1 h_some_; exact ⟨(ets_one (bx_isNot (ev_hnix (x := due_c1) (r := (oR iR)) 4 (ev_var (r := (hnR (rC iR (rC iR (rC iR (rC iR (rC (oR iR) (rC (oR iR) (rO (lR sR)))))))))) 2 rfl hdue_c1) (by rfl) (fun F vs h => (rC.tl h fun vs h => (rC.tl h fun vs h => (rC.tl h fun vs h => (rC.tl h fun vs h => (rC.hd h))))))))), fun g1 => (Ev.oget (ev_hnix (x := due_c1) (r := (oR iR)) 4 (ev_var (r := (hnR (rC iR (rC iR (rC iR (rC iR (rC (oR iR) (rC (oR iR) (rO (lR sR)))))))))) 2 rfl hdue_c1) (by rfl) (fun F vs h => (rC.tl h fun vs h => (rC.tl h fun vs h => (rC.tl h fun vs h => (rC.tl h fun vs h => (rC.hd h))))))) (oG_not g1))⟩) hd1 nd sh.w (fun F1 H_ l1 vs1 s1 nl_ w hA_ => ?_)
  rw [← e_lows1] at hA_
  replace sh := sh.lcN s1 nl_ w hA_
  replace sF := sF.trans s1
  replace h_some_ := Mono.mono s1 h_some_
  show WSs _ _ _ [some v0, some (.ref l1), none, none] _
  obtain ⟨F2, M_, d_, s2, sh, h_lows_⟩ := sh.fz
  replace sF := sF.trans s2
  replace h_some_ := Mono.mono s2 h_some_
  have h_lows : (lR iR) F2 (.ref l1) lows1 := h_lows_
  show WSs _ _ _ [some v0, some (.ref l1), none, none] _
  obtain ⟨hd2, hm⟩ := req_of hb hm
  obtain ⟨highs1, e_highs1, hm⟩ := bnd_of hm
  refine ss_lc (r := (hnR (rC iR (rC iR (rC iR (rC iR (rC (oR iR) (rC (oR iR) (rO (lR sR)))))))))) (s := iR) (hb := show blkC ["_law_some", "_law_lows", "_law_due", "_law_highs"] (defScope s_ends) _ [("_law_due", 2)] = true from by decide +kernel) 3 2 (fun (due_c2 : (Int × Int × Int × Int × (Option Int) × (Option Int) × (List Str))) => (!Option.isNone due_c2.2.2.2.2.2.1)) (fun (due_c2 : (Int × Int × Int × Int × (Option Int) × (Option Int) × (List Str))) => (oG due_c2.2.2.2.2.2.1)) (ei_list (r := (hnR (rC iR (rC iR (rC iR (rC iR (rC (oR iR) (rC (oR iR) (rO (lR sR)))))))))) (Ev.rs (ev_var (r := (lR (hnR (rC iR (rC iR (rC iR (rC iR (rC (oR iR) (rC (oR iR) (rO (lR sR))))))))))) 0 rfl h_some_))) (fun due_c2 vdue_c2 Fc2 Mc2 hm2 sc2 sm2 hdue_c2 Y hY => by obtain ⟨_, _, _, _, _, rfl⟩ := hY; have u2 := Mono.sub sc2 h_some_; exact ⟨(ets_one (bx_isNot (ev_hnix (x := due_c2) (r := (oR iR)) 5 (ev_var (r := (hnR (rC iR (rC iR (rC iR (rC iR (rC (oR iR) (rC (oR iR) (rO (lR sR)))))))))) 2 rfl hdue_c2) (by rfl) (fun F vs h => (rC.tl h fun vs h => (rC.tl h fun vs h => (rC.tl h fun vs h => (rC.tl h fun vs h => (rC.tl h fun vs h => (rC.hd h)))))))))), fun g2 => (Ev.oget (ev_hnix (x := due_c2) (r := (oR iR)) 5 (ev_var (r := (hnR (rC iR (rC iR (rC iR (rC iR (rC (oR iR) (rC (oR iR) (rO (lR sR)))))))))) 2 rfl hdue_c2) (by rfl) (fun F vs h => (rC.tl h fun vs h => (rC.tl h fun vs h => (rC.tl h fun vs h => (rC.tl h fun vs h => (rC.tl h fun vs h => (rC.hd h)))))))) (oG_not g2))⟩) hd2 nd sh.w (fun F3 H_ l2 vs2 s3 nl_ w hA_ => ?_)
  rw [← e_highs1] at hA_
  replace sh := sh.lcN s3 nl_ w hA_
  replace sF := sF.trans s3
  replace h_some_ := Mono.mono s3 h_some_
  replace h_lows := Mono.mono s3 h_lows
  show WSs _ _ _ [some v0, some (.ref l1), none, some (.ref l2)] _
  obtain ⟨F4, M_, d_, s4, sh, h_highs_⟩ := sh.fz
  replace sF := sF.trans s4
  replace h_some_ := Mono.mono s4 h_some_
  replace h_lows := Mono.mono s4 h_lows
  have h_highs : (lR iR) F4 (.ref l2) highs1 := h_highs_
  show WSs _ _ _ [some v0, some (.ref l1), none, some (.ref l2)] _
  exact ss_ret (ev_h2 (r1 := (oR iR)) (r2 := (oR iR)) (ev_minN rfl hr.units T.min_n (Ev.rd (ev_var (r := (lR iR)) 1 rfl h_lows)) ev_non) (ev_maxN rfl hr.units T.max_n (Ev.rd (ev_var (r := (lR iR)) 3 rfl h_highs)) ev_non)) sh.w (fun F5 H_ v_ s5 w hv_ => kk _ _ _ _ (sF.trans s5) (sh.up s5 w).less hm.symm hv_)
theorem ok_row (T : Txt K mg ad) : FnOk P w K mg base CX0 2 ad.a_row ad.d_row ["_law_some"] (FSpV (α := (List (Int × Int × Int × Int × (Option Int) × (Option Int) × (List Str))) × Unit) (ac (lR (hnR (rC iR (rC iR (rC iR (rC iR (rC (oR iR) (rC (oR iR) (rO (lR sR)))))))))) an) (fun x => m_row x.1) (hnR (rC iR (rC iR (rC iR (rC iR (rC (oR iR) (rC (oR iR) (rO (lR sR)))))))))) := by
  have nd : List.Nodup (α := Str) ["_law_some", "_law_words", "_law_due", "_law_long", "_law_leaves", "_law_size"] := sc_row.nd
  refine ok_def T.F_row sc_row (fun vs H Q E h => ?_) (fun cdv A outer s H vs Q E hr h => ?_)
  · obtain ⟨F, M, x, ⟨_, _, rfl, _, rfl⟩, _⟩ := h; rfl
  obtain ⟨F, M, ⟨some_, _⟩, ⟨v0, us0, rfl, hp0, rfl⟩, hb, w, kk⟩ := h
  obtain ⟨r, hr0⟩ : ∃ r, m_row some_ = r := ⟨_, rfl⟩
  replace hb : r ≠ .bad := by rw [← hr0]; exact hb
  replace kk : ∀ F2 H2 v y, Same F F2 → Own F2 M H2 → r = .ok y → (hnR (rC iR (rC iR (rC iR (rC iR (rC (oR iR) (rC (oR iR) (rO (lR sR))))))))) F2 v y → Q v H2 := fun F2 H2 v y a b c e => kk F2 H2 v y a b (hr0.trans c) e
  have hm := hr0; unfold m_row at hm
  have sF : Same F F := Same.refl _
  have sh := SH.nil w
  have hq0 : (lR (hnR (rC iR (rC iR (rC iR (rC iR (rC (oR iR) (rC (oR iR) (rO (lR sR)))))))))) F v0 some_ := hp0
  have h_some_ := hq0
  show WSs _ _ _ [some v0, none, none, none, none, none] _
  obtain ⟨words1, e_words1, hm⟩ := bnd_of hm
  refine ss_set 1 (Ev.eq (EvN.fz (en_lst (r := sR) (ea_consL ev_str ea_nilL))) e_words1.symm) sh.w (fun F1 H_ v_words1 s1 w (hn_ : (lR sR) F1 v_words1 words1) => ?_) nd
  replace sF := sF.trans s1
  replace h_some_ := Mono.mono s1 h_some_
  replace sh := sh.up s1 w
  have h_words := hn_
  show WSs _ _ _ [some v0, some v_words1, none, none, none, none] _
  obtain ⟨BL1, KL1, eBL1, eKL1, hm⟩ := forC1_of hm
  refine ss_for 2 (ei_list (r := (hnR (rC iR (rC iR (rC iR (rC iR (rC (oR iR) (rC (oR iR) (rO (lR sR)))))))))) (Ev.rs (ev_var (r := (lR (hnR (rC iR (rC iR (rC iR (rC iR (rC (oR iR) (rC (oR iR) (rO (lR sR))))))))))) 0 rfl h_some_))) sh.w (fun i F2 M2 σ2 => ∃ (words2 : (List Str)) (v_words2 : V) (o_due1 : Option V) (d2 : List Addr), σ2 = [some v0, some v_words2, o_due1, none, none, none] ∧ SG M [] oN d2 F2 M2 [] (()) ∧ (lR sR) F2 v_words2 words2 ∧ forC1 BL1 KL1 (List.drop i some_) words2 = r) (fun F_ s_ => ?_) ?_ ?_ ?_ PassesOwn.never nd
  · exact ⟨words1, v_words1, none, _, rfl, sh.sg.up s_, Mono.mono s_ h_words, hm⟩
  · rintro i_ F_ F2_ M_ σ_ s_ ⟨words2, v_words2, o_due1, d_, e1_, g_, z0, hm_⟩
    exact ⟨words2, v_words2, o_due1, d_, e1_, g_.up s_, Mono.mono s_ z0, hm_⟩
  · rintro F2 i1 due1 v_due1 F3 M_ H_ σ_ s2 hx1 ⟨words2, v_words2, o_due1, d_, rfl, sg_, hj_words1_n, hm⟩ s3 w hi_1
    have sh := sg_.sh w
    replace sF := sF.trans (s2.trans s3)
    replace h_some_ := Mono.mono (s2.trans s3) h_some_
    have h_words := hj_words1_n
    have hm := forC1_at eBL1 hx1 hm
    have h_due := hi_1
    have sL1 := s3
    show WSs _ _ _ [some v0, some v_words2, some v_due1, none, none, none] _
    obtain ⟨hd1, hm⟩ := req_of hb hm
    obtain ⟨words3, e_words3, hm⟩ := bnd_of hm
    refine ss_set 1 (Ev.eq (EvN.fz (en_cat (Ev.rt (ev_var (r := (lR sR)) 1 rfl h_words)) (Ev.rt (ev_hnix (x := due1) (r := (lR sR)) 6 (ev_var (r := (hnR (rC iR (rC iR (rC iR (rC iR (rC (oR iR) (rC (oR iR) (rO (lR sR)))))))))) 2 rfl h_due) (by rfl) (fun F vs h => (rC.tl h fun vs h => (rC.tl h fun vs h => (rC.tl h fun vs h => (rC.tl h fun vs h => (rC.tl h fun vs h => (rC.tl h fun vs h => (rO.at h)))))))))) hd1)) e_words3.symm) sh.w (fun F4 H_ v_words2 s4 w (hn_ : (lR sR) F4 v_words2 words3) => ?_) nd
    replace sF := sF.trans s4
    replace sL1 := sL1.trans s4
    replace h_some_ := Mono.mono s4 h_some_
    replace h_due := Mono.mono s4 h_due
    replace sh := sh.up s4 w
    have h_words := hn_
    show WSs _ _ _ [some v0, some v_words2, some v_due1, none, none, none] _
    refine ss_nil ?_
    exact ⟨_, _, sL1, sh.w, words3, v_words2, (some v_due1), _, rfl, sh.sg, h_words, hm⟩
  · rintro F5 M_ H_ σ_ s5 w ⟨words2, v_words2, o_due1, d_, rfl, sg_, hj_words1_n, hm⟩
    have sh := sg_.sh w
    replace sF := sF.trans s5
    replace h_some_ := Mono.mono s5 h_some_
    have h_words := hj_words1_n
    have hm := forC1_end eKL1 hm
    show WSs _ _ _ [some v0, some v_words2, o_due1, none, none, none] _
    obtain ⟨hd2, hm⟩ := req_of hb hm
    obtain ⟨long1, e_long1, hm⟩ := bnd_of hm
    refine ss_setI 3 (Ev.eq (ev_sum rfl T.sum_n (Ev.rd (EvN.fz (EvN.lcT (en_lc (r := (hnR (rC iR (rC iR (rC iR (rC iR (rC (oR iR) (rC (oR iR) (rO (lR sR)))))))))) (s := iR) (hb := show blkC ["_law_some", "_law_words", "_law_due", "_law_long", "_law_leaves", "_law_size"] (defScope s_row) _ [("_law_due", 2)] = true from by decide +kernel) 2 (fun (due_c1 : (Int × Int × Int × Int × (Option Int) × (Option Int) × (List Str))) => true) (fun (due_c1 : (Int × Int × Int × Int × (Option Int) × (Option Int) × (List Str))) => due_c1.1) (ei_list (r := (hnR (rC iR (rC iR (rC iR (rC iR (rC (oR iR) (rC (oR iR) (rO (lR sR)))))))))) (Ev.rs (ev_var (r := (lR (hnR (rC iR (rC iR (rC iR (rC iR (rC (oR iR) (rC (oR iR) (rO (lR sR))))))))))) 0 rfl h_some_))) (fun due_c1 vdue_c1 Fc1 Mc1 hm1 sc1 sm1 hdue_c1 Y hY => by obtain ⟨_, _, _, _, _, rfl⟩ := hY; have u1 := Mono.sub sc1 h_some_; exact ⟨ets_nil, fun g1 => (ev_hnix (x := due_c1) (r := iR) 0 (ev_var (r := (hnR (rC iR (rC iR (rC iR (rC iR (rC (oR iR) (rC (oR iR) (rO (lR sR)))))))))) 2 rfl hdue_c1) (by rfl) (fun F vs h => (rC.hd h)))⟩) hd2 nd))))) e_long1.symm) sh.w (fun H_ w => ?_) nd
    replace sh := sh.h w
    show WSs _ _ _ [some v0, some v_words2, o_due1, some (.int long1), none, none] _
    obtain ⟨hd3, hm⟩ := req_of hb hm
    obtain ⟨leaves1, e_leaves1, hm⟩ := bnd_of hm
    refine ss_setI 4 (Ev.eq (ev_sum rfl T.sum_n (Ev.rd (EvN.fz (EvN.lcT (en_lc (r := (hnR (rC iR (rC iR (rC iR (rC iR (rC (oR iR) (rC (oR iR) (rO (lR sR)))))))))) (s := iR) (hb := show blkC ["_law_some", "_law_words", "_law_due", "_law_long", "_law_leaves", "_law_size"] (defScope s_row) _ [("_law_due", 2)] = true from by decide +kernel) 2 (fun (due_c2 : (Int × Int × Int × Int × (Option Int) × (Option Int) × (List Str))) => true) (fun (due_c2 : (Int × Int × Int × Int × (Option Int) × (Option Int) × (List Str))) => due_c2.2.1) (ei_list (r := (hnR (rC iR (rC iR (rC iR (rC iR (rC (oR iR) (rC (oR iR) (rO (lR sR)))))))))) (Ev.rs (ev_var (r := (lR (hnR (rC iR (rC iR (rC iR (rC iR (rC (oR iR) (rC (oR iR) (rO (lR sR))))))))))) 0 rfl h_some_))) (fun due_c2 vdue_c2 Fc2 Mc2 hm2 sc2 sm2 hdue_c2 Y hY => by obtain ⟨_, _, _, _, _, rfl⟩ := hY; have u2 := Mono.sub sc2 h_some_; exact ⟨ets_nil, fun g2 => (ev_hnix (x := due_c2) (r := iR) 1 (ev_var (r := (hnR (rC iR (rC iR (rC iR (rC iR (rC (oR iR) (rC (oR iR) (rO (lR sR)))))))))) 2 rfl hdue_c2) (by rfl) (fun F vs h => (rC.tl h fun vs h => (rC.hd h))))⟩) hd3 nd))))) e_leaves1.symm) sh.w (fun H_ w => ?_) nd
    replace sh := sh.h w
    show WSs _ _ _ [some v0, some v_words2, o_due1, some (.int long1), some (.int leaves1), none] _
    obtain ⟨hd4, hm⟩ := req_of hb hm
    obtain ⟨size1, e_size1, hm⟩ := bnd_of hm
    refine ss_setI 5 (Ev.eq (ev_add ev_int (ev_sum rfl T.sum_n (Ev.rd (EvN.fz (EvN.lcT (en_lc (r := (hnR (rC iR (rC iR (rC iR (rC iR (rC (oR iR) (rC (oR iR) (rO (lR sR)))))))))) (s := iR) (hb := show blkC ["_law_some", "_law_words", "_law_due", "_law_long", "_law_leaves", "_law_size"] (defScope s_row) _ [("_law_due", 2)] = true from by decide +kernel) 2 (fun (due_c3 : (Int × Int × Int × Int × (Option Int) × (Option Int) × (List Str))) => true) (fun (due_c3 : (Int × Int × Int × Int × (Option Int) × (Option Int) × (List Str))) => due_c3.2.2.1) (ei_list (r := (hnR (rC iR (rC iR (rC iR (rC iR (rC (oR iR) (rC (oR iR) (rO (lR sR)))))))))) (Ev.rs (ev_var (r := (lR (hnR (rC iR (rC iR (rC iR (rC iR (rC (oR iR) (rC (oR iR) (rO (lR sR))))))))))) 0 rfl h_some_))) (fun due_c3 vdue_c3 Fc3 Mc3 hm3 sc3 sm3 hdue_c3 Y hY => by obtain ⟨_, _, _, _, _, rfl⟩ := hY; have u3 := Mono.sub sc3 h_some_; exact ⟨ets_nil, fun g3 => (ev_hnix (x := due_c3) (r := iR) 2 (ev_var (r := (hnR (rC iR (rC iR (rC iR (rC iR (rC (oR iR) (rC (oR iR) (rO (lR sR)))))))))) 2 rfl hdue_c3) (by rfl) (fun F vs h => (rC.tl h fun vs h => (rC.tl h fun vs h => (rC.hd h)))))⟩) hd4 nd)))))) e_size1.symm) sh.w (fun H_ w => ?_) nd
    replace sh := sh.h w
    show WSs _ _ _ [some v0, some v_words2, o_due1, some (.int long1), some (.int leaves1), some (.int size1)] _
    obtain ⟨hd5, hm⟩ := req_of hb hm
    exact ss_ret (Ev.eq (y := (long1, leaves1, size1, ((1 : Int) + (mxD 0 (some_.map (fun (due_c4 : (Int × Int × Int × Int × (Option Int) × (Option Int) × (List Str))) => due_c4.2.2.2.1)))), ((m_ends some_).get).1, ((m_ends some_).get).2, ((words2 ++ [(")" : Str)])))) (ev_hcat (s := (rC iR (rC iR (rC iR (rC iR (rC (oR iR) (rO (oR iR)))))))) (t := (rO (lR sR))) (x := (long1, leaves1, size1, ((1 : Int) + (mxD 0 (some_.map (fun (due_c4 : (Int × Int × Int × Int × (Option Int) × (Option Int) × (List Str))) => due_c4.2.2.2.1)))), ((m_ends some_).get).1, ((m_ends some_).get).2)) (y := (words2 ++ [(")" : Str)])) (Ev.eq (y := (long1, leaves1, size1, ((1 : Int) + (mxD 0 (some_.map (fun (due_c4 : (Int × Int × Int × Int × (Option Int) × (Option Int) × (List Str))) => due_c4.2.2.2.1)))), ((m_ends some_).get).1, ((m_ends some_).get).2)) (ev_hcat (s := (rC iR (rC iR (rC iR (rO iR))))) (t := (rC (oR iR) (rO (oR iR)))) (x := (long1, leaves1, size1, ((1 : Int) + (mxD 0 (some_.map (fun (due_c4 : (Int × Int × Int × Int × (Option Int) × (Option Int) × (List Str))) => due_c4.2.2.2.1)))))) (y := (m_ends some_).get) (ev_hn (er_cons (r := iR) (ev_var (r := iR) 3 rfl rfl) (er_cons (r := iR) (ev_var (r := iR) 4 rfl rfl) (er_cons (r := iR) (ev_var (r := iR) 5 rfl rfl) (er_one (r := iR) (ev_add ev_int (ev_maxL rfl T.max_n (Ev.rd (EvN.fz (EvN.lcT (en_lc (r := (hnR (rC iR (rC iR (rC iR (rC iR (rC (oR iR) (rC (oR iR) (rO (lR sR)))))))))) (s := iR) (hb := show blkC ["_law_some", "_law_words", "_law_due", "_law_long", "_law_leaves", "_law_size"] (defScope s_row) _ [("_law_due", 2)] = true from by decide +kernel) 2 (fun (due_c4 : (Int × Int × Int × Int × (Option Int) × (Option Int) × (List Str))) => true) (fun (due_c4 : (Int × Int × Int × Int × (Option Int) × (Option Int) × (List Str))) => due_c4.2.2.2.1) (ei_list (r := (hnR (rC iR (rC iR (rC iR (rC iR (rC (oR iR) (rC (oR iR) (rO (lR sR)))))))))) (Ev.rs (ev_var (r := (lR (hnR (rC iR (rC iR (rC iR (rC iR (rC (oR iR) (rC (oR iR) (rO (lR sR))))))))))) 0 rfl h_some_))) (fun due_c4 vdue_c4 Fc4 Mc4 hm4 sc4 sm4 hdue_c4 Y hY => by obtain ⟨_, _, _, _, _, rfl⟩ := hY; have u4 := Mono.sub sc4 h_some_; exact ⟨ets_nil, fun g4 => (ev_hnix (x := due_c4) (r := iR) 3 (ev_var (r := (hnR (rC iR (rC iR (rC iR (rC iR (rC (oR iR) (rC (oR iR) (rO (lR sR)))))))))) 2 rfl hdue_c4) (by rfl) (fun F vs h => (rC.tl h fun vs h => (rC.tl h fun vs h => (rC.tl h fun vs h => (rC.hd h))))))⟩) hd5.1 nd)))) hd5.2.1))))))) (Ev.h2n (show EvF _ _ _ _ _ (h2R (oR iR) (oR iR)) (m_ends some_).get from ev_callV (x := (some_, ())) (ok_ends T) (hr.mono (by decide)) T.g_ends T.F_ends.kp T.b_ends (ea_cons (r := (lR (hnR (rC iR (rC iR (rC iR (rC iR (rC (oR iR) (rC (oR iR) (rO (lR sR))))))))))) (ev_var (r := (lR (hnR (rC iR (rC iR (rC iR (rC iR (rC (oR iR) (rC (oR iR) (rO (lR sR))))))))))) 0 rfl h_some_) ea_nil) hd5.2.2.1))) rfl) (ev_hn (er_one (r := (lR sR)) (EvN.fz (en_cat (Ev.rt (ev_var (r := (lR sR)) 1 rfl h_words)) (Ev.rt (EvN.fz (en_lst (r := sR) (ea_consL ev_str ea_nilL)))) hd5.2.2.2))))) rfl) sh.w (fun F6 H_ v_ s6 w hv_ => kk _ _ _ _ (sF.trans s6) (sh.up s6 w).less hm.symm hv_)
theorem ok_beside (T : Txt K mg ad) : FnOk P w K mg base CX0 2 ad.a_beside ad.d_beside ["_law_some"] (FSpV (α := (List (Int × Int × Int × Int × (Option Int) × (Option Int) × (List Str))) × Unit) (ac (lR (hnR (rC iR (rC iR (rC iR (rC iR (rC (oR iR) (rC (oR iR) (rO (lR sR)))))))))) an) (fun x => m_beside x.1) (hnR (rC iR (rC iR (rC iR (rC iR (rC (oR iR) (rC (oR iR) (rO (lR sR)))))))))) := by
  have nd : List.Nodup (α := Str) ["_law_some", "_law_words", "_law_due", "_law_long", "_law_leaves", "_law_size"] := sc_beside.nd
  refine ok_def T.F_beside sc_beside (fun vs H Q E h => ?_) (fun cdv A outer s H vs Q E hr h => ?_)
  · obtain ⟨F, M, x, ⟨_, _, rfl, _, rfl⟩, _⟩ := h; rfl
  obtain ⟨F, M, ⟨some_, _⟩, ⟨v0, us0, rfl, hp0, rfl⟩, hb, w, kk⟩ := h
  obtain ⟨r, hr0⟩ : ∃ r, m_beside some_ = r := ⟨_, rfl⟩
  replace hb : r ≠ .bad := by rw [← hr0]; exact hb
  replace kk : ∀ F2 H2 v y, Same F F2 → Own F2 M H2 → r = .ok y → (hnR (rC iR (rC iR (rC iR (rC iR (rC (oR iR) (rC (oR iR) (rO (lR sR))))))))) F2 v y → Q v H2 := fun F2 H2 v y a b c e => kk F2 H2 v y a b (hr0.trans c) e
  have hm := hr0; unfold m_beside at hm
  have sF : Same F F := Same.refl _
  have sh := SH.nil w
  have hq0 : (lR (hnR (rC iR (rC iR (rC iR (rC iR (rC (oR iR) (rC (oR iR) (rO (lR sR)))))))))) F v0 some_ := hp0
  have h_some_ := hq0
  show WSs _ _ _ [some v0, none, none, none, none, none] _
  obtain ⟨words1, e_words1, hm⟩ := bnd_of hm
  refine ss_set 1 (Ev.eq (EvN.fz (en_lst (r := sR) ea_nilL)) e_words1.symm) sh.w (fun F1 H_ v_words1 s1 w (hn_ : (lR sR) F1 v_words1 words1) => ?_) nd
  replace sF := sF.trans s1
  replace h_some_ := Mono.mono s1 h_some_
  replace sh := sh.up s1 w
  have h_words := hn_
  show WSs _ _ _ [some v0, some v_words1, none, none, none, none] _
  obtain ⟨BL1, KL1, eBL1, eKL1, hm⟩ := forC1_of hm
  refine ss_for 2 (ei_list (r := (hnR (rC iR (rC iR (rC iR (rC iR (rC (oR iR) (rC (oR iR) (rO (lR sR)))))))))) (Ev.rs (ev_var (r := (lR (hnR (rC iR (rC iR (rC iR (rC iR (rC (oR iR) (rC (oR iR) (rO (lR sR))))))))))) 0 rfl h_some_))) sh.w (fun i F2 M2 σ2 => ∃ (words2 : (List Str)) (v_words2 : V) (o_due1 : Option V) (d2 : List Addr), σ2 = [some v0, some v_words2, o_due1, none, none, none] ∧ SG M [] oN d2 F2 M2 [] (()) ∧ (lR sR) F2 v_words2 words2 ∧ forC1 BL1 KL1 (List.drop i some_) words2 = r) (fun F_ s_ => ?_) ?_ ?_ ?_ PassesOwn.never nd
  · exact ⟨words1, v_words1, none, _, rfl, sh.sg.up s_, Mono.mono s_ h_words, hm⟩
  · rintro i_ F_ F2_ M_ σ_ s_ ⟨words2, v_words2, o_due1, d_, e1_, g_, z0, hm_⟩
    exact ⟨words2, v_words2, o_due1, d_, e1_, g_.up s_, Mono.mono s_ z0, hm_⟩
  · rintro F2 i1 due1 v_due1 F3 M_ H_ σ_ s2 hx1 ⟨words2, v_words2, o_due1, d_, rfl, sg_, hj_words1_n, hm⟩ s3 w hi_1
    have sh := sg_.sh w
    replace sF := sF.trans (s2.trans s3)
    replace h_some_ := Mono.mono (s2.trans s3) h_some_
    have h_words := hj_words1_n
    have hm := forC1_at eBL1 hx1 hm
    have h_due := hi_1
    have sL1 := s3
    show WSs _ _ _ [some v0, some v_words2, some v_due1, none, none, none] _
    obtain ⟨hd1, hm⟩ := req_of hb hm
    obtain ⟨words3, e_words3, hm⟩ := bnd_of hm
    refine ss_set 1 (Ev.eq (EvN.fz (en_cat (Ev.rt (EvN.fz (en_cat (Ev.rt (ev_var (r := (lR sR)) 1 rfl h_words)) (Ev.rt (EvN.fz (en_lst (r := sR) (ea_consL ev_str ea_nilL)))) hd1.1))) (Ev.rt (ev_hnix (x := due1) (r := (lR sR)) 6 (ev_var (r := (hnR (rC iR (rC iR (rC iR (rC iR (rC (oR iR) (rC (oR iR) (rO (lR sR)))))))))) 2 rfl h_due) (by rfl) (fun F vs h => (rC.tl h fun vs h => (rC.tl h fun vs h => (rC.tl h fun vs h => (rC.tl h fun vs h => (rC.tl h fun vs h => (rC.tl h fun vs h => (rO.at h)))))))))) hd1.2)) e_words3.symm) sh.w (fun F4 H_ v_words2 s4 w (hn_ : (lR sR) F4 v_words2 words3) => ?_) nd
    replace sF := sF.trans s4
    replace sL1 := sL1.trans s4
    replace h_some_ := Mono.mono s4 h_some_
    replace h_due := Mono.mono s4 h_due
    replace sh := sh.up s4 w
    have h_words := hn_
    show WSs _ _ _ [some v0, some v_words2, some v_due1, none, none, none] _
    refine ss_nil ?_
    exact ⟨_, _, sL1, sh.w, words3, v_words2, (some v_due1), _, rfl, sh.sg, h_words, hm⟩
  · rintro F5 M_ H_ σ_ s5 w ⟨words2, v_words2, o_due1, d_, rfl, sg_, hj_words1_n, hm⟩
    have sh := sg_.sh w
    replace sF := sF.trans s5
    replace h_some_ := Mono.mono s5 h_some_
    have h_words := hj_words1_n
    have hm := forC1_end eKL1 hm
    show WSs _ _ _ [some v0, some v_words2, o_due1, none, none, none] _
    obtain ⟨hd2, hm⟩ := req_of hb hm
    obtain ⟨long1, e_long1, hm⟩ := bnd_of hm
    refine ss_setI 3 (Ev.eq (ev_maxL rfl T.max_n (Ev.rd (EvN.fz (EvN.lcT (en_lc (r := (hnR (rC iR (rC iR (rC iR (rC iR (rC (oR iR) (rC (oR iR) (rO (lR sR)))))))))) (s := iR) (hb := show blkC ["_law_some", "_law_words", "_law_due", "_law_long", "_law_leaves", "_law_size"] (defScope s_beside) _ [("_law_due", 2)] = true from by decide +kernel) 2 (fun (due_c1 : (Int × Int × Int × Int × (Option Int) × (Option Int) × (List Str))) => true) (fun (due_c1 : (Int × Int × Int × Int × (Option Int) × (Option Int) × (List Str))) => due_c1.1) (ei_list (r := (hnR (rC iR (rC iR (rC iR (rC iR (rC (oR iR) (rC (oR iR) (rO (lR sR)))))))))) (Ev.rs (ev_var (r := (lR (hnR (rC iR (rC iR (rC iR (rC iR (rC (oR iR) (rC (oR iR) (rO (lR sR))))))))))) 0 rfl h_some_))) (fun due_c1 vdue_c1 Fc1 Mc1 hm1 sc1 sm1 hdue_c1 Y hY => by obtain ⟨_, _, _, _, _, rfl⟩ := hY; have u1 := Mono.sub sc1 h_some_; exact ⟨ets_nil, fun g1 => (ev_hnix (x := due_c1) (r := iR) 0 (ev_var (r := (hnR (rC iR (rC iR (rC iR (rC iR (rC (oR iR) (rC (oR iR) (rO (lR sR)))))))))) 2 rfl hdue_c1) (by rfl) (fun F vs h => (rC.hd h)))⟩) hd2.1 nd)))) hd2.2) e_long1.symm) sh.w (fun H_ w => ?_) nd
    replace sh := sh.h w
    show WSs _ _ _ [some v0, some v_words2, o_due1, some (.int long1), none, none] _
    obtain ⟨hd3, hm⟩ := req_of hb hm
    obtain ⟨leaves1, e_leaves1, hm⟩ := bnd_of hm
    refine ss_setI 4 (Ev.eq (ev_sum rfl T.sum_n (Ev.rd (EvN.fz (EvN.lcT (en_lc (r := (hnR (rC iR (rC iR (rC iR (rC iR (rC (oR iR) (rC (oR iR) (rO (lR sR)))))))))) (s := iR) (hb := show blkC ["_law_some", "_law_words", "_law_due", "_law_long", "_law_leaves", "_law_size"] (defScope s_beside) _ [("_law_due", 2)] = true from by decide +kernel) 2 (fun (due_c2 : (Int × Int × Int × Int × (Option Int) × (Option Int) × (List Str))) => true) (fun (due_c2 : (Int × Int × Int × Int × (Option Int) × (Option Int) × (List Str))) => due_c2.2.1) (ei_list (r := (hnR (rC iR (rC iR (rC iR (rC iR (rC (oR iR) (rC (oR iR) (rO (lR sR)))))))))) (Ev.rs (ev_var (r := (lR (hnR (rC iR (rC iR (rC iR (rC iR (rC (oR iR) (rC (oR iR) (rO (lR sR))))))))))) 0 rfl h_some_))) (fun due_c2 vdue_c2 Fc2 Mc2 hm2 sc2 sm2 hdue_c2 Y hY => by obtain ⟨_, _, _, _, _, rfl⟩ := hY; have u2 := Mono.sub sc2 h_some_; exact ⟨ets_nil, fun g2 => (ev_hnix (x := due_c2) (r := iR) 1 (ev_var (r := (hnR (rC iR (rC iR (rC iR (rC iR (rC (oR iR) (rC (oR iR) (rO (lR sR)))))))))) 2 rfl hdue_c2) (by rfl) (fun F vs h => (rC.tl h fun vs h => (rC.hd h))))⟩) hd3 nd))))) e_leaves1.symm) sh.w (fun H_ w => ?_) nd
    replace sh := sh.h w
    show WSs _ _ _ [some v0, some v_words2, o_due1, some (.int long1), some (.int leaves1), none] _
    obtain ⟨hd4, hm⟩ := req_of hb hm
    obtain ⟨size1, e_size1, hm⟩ := bnd_of hm
    refine ss_setI 5 (Ev.eq (ev_add ev_int (ev_sum rfl T.sum_n (Ev.rd (EvN.fz (EvN.lcT (en_lc (r := (hnR (rC iR (rC iR (rC iR (rC iR (rC (oR iR) (rC (oR iR) (rO (lR sR)))))))))) (s := iR) (hb := show blkC ["_law_some", "_law_words", "_law_due", "_law_long", "_law_leaves", "_law_size"] (defScope s_beside) _ [("_law_due", 2)] = true from by decide +kernel) 2 (fun (due_c3 : (Int × Int × Int × Int × (Option Int) × (Option Int) × (List Str))) => true) (fun (due_c3 : (Int × Int × Int × Int × (Option Int) × (Option Int) × (List Str))) => due_c3.2.2.1) (ei_list (r := (hnR (rC iR (rC iR (rC iR (rC iR (rC (oR iR) (rC (oR iR) (rO (lR sR)))))))))) (Ev.rs (ev_var (r := (lR (hnR (rC iR (rC iR (rC iR (rC iR (rC (oR iR) (rC (oR iR) (rO (lR sR))))))))))) 0 rfl h_some_))) (fun due_c3 vdue_c3 Fc3 Mc3 hm3 sc3 sm3 hdue_c3 Y hY => by obtain ⟨_, _, _, _, _, rfl⟩ := hY; have u3 := Mono.sub sc3 h_some_; exact ⟨ets_nil, fun g3 => (ev_hnix (x := due_c3) (r := iR) 2 (ev_var (r := (hnR (rC iR (rC iR (rC iR (rC iR (rC (oR iR) (rC (oR iR) (rO (lR sR)))))))))) 2 rfl hdue_c3) (by rfl) (fun F vs h => (rC.tl h fun vs h => (rC.tl h fun vs h => (rC.hd h)))))⟩) hd4 nd)))))) e_size1.symm) sh.w (fun H_ w => ?_) nd
    replace sh := sh.h w
    show WSs _ _ _ [some v0, some v_words2, o_due1, some (.int long1), some (.int leaves1), some (.int size1)] _
    obtain ⟨hd5, hm⟩ := req_of hb hm
    exact ss_ret (Ev.eq (y := (long1, leaves1, size1, ((1 : Int) + (mxD 0 (some_.map (fun (due_c4 : (Int × Int × Int × Int × (Option Int) × (Option Int) × (List Str))) => due_c4.2.2.2.1)))), ((m_ends some_).get).1, ((m_ends some_).get).2, (([("[" : Str)] ++ (cutL words2 (some (1 : Int)) none)) ++ [("]" : Str)]))) (ev_hcat (s := (rC iR (rC iR (rC iR (rC iR (rC (oR iR) (rO (oR iR)))))))) (t := (rO (lR sR))) (x := (long1, leaves1, size1, ((1 : Int) + (mxD 0 (some_.map (fun (due_c4 : (Int × Int × Int × Int × (Option Int) × (Option Int) × (List Str))) => due_c4.2.2.2.1)))), ((m_ends some_).get).1, ((m_ends some_).get).2)) (y := (([("[" : Str)] ++ (cutL words2 (some (1 : Int)) none)) ++ [("]" : Str)])) (Ev.eq (y := (long1, leaves1, size1, ((1 : Int) + (mxD 0 (some_.map (fun (due_c4 : (Int × Int × Int × Int × (Option Int) × (Option Int) × (List Str))) => due_c4.2.2.2.1)))), ((m_ends some_).get).1, ((m_ends some_).get).2)) (ev_hcat (s := (rC iR (rC iR (rC iR (rO iR))))) (t := (rC (oR iR) (rO (oR iR)))) (x := (long1, leaves1, size1, ((1 : Int) + (mxD 0 (some_.map (fun (due_c4 : (Int × Int × Int × Int × (Option Int) × (Option Int) × (List Str))) => due_c4.2.2.2.1)))))) (y := (m_ends some_).get) (ev_hn (er_cons (r := iR) (ev_var (r := iR) 3 rfl rfl) (er_cons (r := iR) (ev_var (r := iR) 4 rfl rfl) (er_cons (r := iR) (ev_var (r := iR) 5 rfl rfl) (er_one (r := iR) (ev_add ev_int (ev_maxL rfl T.max_n (Ev.rd (EvN.fz (EvN.lcT (en_lc (r := (hnR (rC iR (rC iR (rC iR (rC iR (rC (oR iR) (rC (oR iR) (rO (lR sR)))))))))) (s := iR) (hb := show blkC ["_law_some", "_law_words", "_law_due", "_law_long", "_law_leaves", "_law_size"] (defScope s_beside) _ [("_law_due", 2)] = true from by decide +kernel) 2 (fun (due_c4 : (Int × Int × Int × Int × (Option Int) × (Option Int) × (List Str))) => true) (fun (due_c4 : (Int × Int × Int × Int × (Option Int) × (Option Int) × (List Str))) => due_c4.2.2.2.1) (ei_list (r := (hnR (rC iR (rC iR (rC iR (rC iR (rC (oR iR) (rC (oR iR) (rO (lR sR)))))))))) (Ev.rs (ev_var (r := (lR (hnR (rC iR (rC iR (rC iR (rC iR (rC (oR iR) (rC (oR iR) (rO (lR sR))))))))))) 0 rfl h_some_))) (fun due_c4 vdue_c4 Fc4 Mc4 hm4 sc4 sm4 hdue_c4 Y hY => by obtain ⟨_, _, _, _, _, rfl⟩ := hY; have u4 := Mono.sub sc4 h_some_; exact ⟨ets_nil, fun g4 => (ev_hnix (x := due_c4) (r := iR) 3 (ev_var (r := (hnR (rC iR (rC iR (rC iR (rC iR (rC (oR iR) (rC (oR iR) (rO (lR sR)))))))))) 2 rfl hdue_c4) (by rfl) (fun F vs h => (rC.tl h fun vs h => (rC.tl h fun vs h => (rC.tl h fun vs h => (rC.hd h))))))⟩) hd5.1 nd)))) hd5.2.1))))))) (Ev.h2n (show EvF _ _ _ _ _ (h2R (oR iR) (oR iR)) (m_ends some_).get from ev_callV (x := (some_, ())) (ok_ends T) (hr.mono (by decide)) T.g_ends T.F_ends.kp T.b_ends (ea_cons (r := (lR (hnR (rC iR (rC iR (rC iR (rC iR (rC (oR iR) (rC (oR iR) (rO (lR sR))))))))))) (ev_var (r := (lR (hnR (rC iR (rC iR (rC iR (rC iR (rC (oR iR) (rC (oR iR) (rO (lR sR))))))))))) 0 rfl h_some_) ea_nil) hd5.2.2.1))) rfl) (ev_hn (er_one (r := (lR sR)) (EvN.fz (en_cat (Ev.rt (EvN.fz (en_cat (Ev.rt (EvN.fz (en_lst (r := sR) (ea_consL ev_str ea_nilL)))) (Ev.rt (EvN.fz (en_slice (Ev.rd (ev_var (r := (lR sR)) 1 rfl h_words)) (eo_some ev_int) eo_none))) hd5.2.2.2.1))) (Ev.rt (EvN.fz (en_lst (r := sR) (ea_consL ev_str ea_nilL)))) hd5.2.2.2.2))))) rfl) sh.w (fun F6 H_ v_ s6 w hv_ => kk _ _ _ _ (sF.trans s6) (sh.up s6 w).less hm.symm hv_)
theorem ok_good (T : Txt K mg ad) : FnOk P w K mg base CX0 16 ad.a_good ad.d_good ["_law_parts", "_law_dues"] (FSpV (α := (List PT) × (List (Int × Int × Int × Int × (Option Int) × (Option Int) × (List Str))) × Unit) (ac (lR (pR ad.pc)) (ac (lR (hnR (rC iR (rC iR (rC iR (rC iR (rC (oR iR) (rC (oR iR) (rO (lR sR)))))))))) an)) (fun x => m_good x.1 x.2.1) (oR (pR ad.pc))) := by
  have nd : List.Nodup (α := Str) ["_law_parts", "_law_dues", "_law_handed", "_law_found", "_law_due"] := sc_good.nd
  refine ok_def T.F_good sc_good (fun vs H Q E h => ?_) (fun cdv A outer s H vs Q E hr h => ?_)
  · obtain ⟨F, M, x, ⟨_, _, rfl, _, ⟨_, _, rfl, _, rfl⟩⟩, _⟩ := h; rfl
  obtain ⟨F, M, ⟨parts, dues, _⟩, ⟨v0, us0, rfl, hp0, ⟨v1, us1, rfl, hp1, rfl⟩⟩, hb, w, kk⟩ := h
  obtain ⟨r, hr0⟩ : ∃ r, m_good parts dues = r := ⟨_, rfl⟩
  replace hb : r ≠ .bad := by rw [← hr0]; exact hb
  replace kk : ∀ F2 H2 v y, Same F F2 → Own F2 M H2 → r = .ok y → (oR (pR ad.pc)) F2 v y → Q v H2 := fun F2 H2 v y a b c e => kk F2 H2 v y a b (hr0.trans c) e
  have hm := hr0; unfold m_good at hm
  have sF : Same F F := Same.refl _
  have sh := SH.nil w
  have hq0 : (lR (pR ad.pc)) F v0 parts := hp0
  have h_parts := hq0
  have hq1 : (lR (hnR (rC iR (rC iR (rC iR (rC iR (rC (oR iR) (rC (oR iR) (rO (lR sR)))))))))) F v1 dues := hp1
  have h_dues := hq1
  show WSs _ _ _ [some v0, some v1, none, none, none] _
  obtain ⟨lp1, vs_lp1, ep_lp1, hl_lp1, hA_lp1⟩ := id h_parts
  have hr_lp1 := pR_refs hA_lp1
  refine ss_setU 2 (eu_listV (r := (pR ad.pc)) T.list_n (Ev.imp (ev_val 0 rfl) (fun _ _ z => z.trans ep_lp1)) hl_lp1 hA_lp1) sh (fun F1 M_ H_ v_handed1 d_ s1 sh => ?_) nd
  replace sF := sF.trans s1
  replace h_parts := Mono.mono s1 h_parts
  replace h_dues := Mono.mono s1 h_dues
  replace hl_lp1 := s1 _ _ hl_lp1
  show WSs _ _ _ [some v0, some v1, some v_handed1, none, none] _
  obtain ⟨hd1, hm⟩ := req_of hb hm
  obtain ⟨found1, e_found1, hm⟩ := bnd_of hm
  refine ss_set 3 (Ev.eq (show EvF _ _ _ _ _ (pR ad.pc) (m_Beside_init parts).get from ev_makePM (A := fun M_ => (ac (rtR M_ (pR ad.pc)) an)) (pc := ad.pc) (kk := .beside) (x := (parts, ())) takes0 T.mk_Beside (ok_Beside_init T) (hr.mono (by decide)) T.pk_Beside T.b_Beside_init (ea_cons (r := (rtR _ (pR ad.pc))) (EvP.rtV (evp_name 2 rfl sh.gm.hd)) ea_nil) hd1) e_found1.symm) sh.w (fun F2 H_ v_found1 s2 w (hn_ : (pR ad.pc) F2 v_found1 found1) => ?_) nd
  replace sF := sF.trans s2
  replace h_parts := Mono.mono s2 h_parts
  replace h_dues := Mono.mono s2 h_dues
  replace hl_lp1 := s2 _ _ hl_lp1
  replace sh := sh.up s2 w
  have h_found := hn_
  show WSs _ _ _ [some v0, some v1, some v_handed1, some v_found1, none] _
  obtain ⟨hd2, hm⟩ := req_of hb hm
  obtain ⟨due1, e_due1, hm⟩ := bnd_of hm
  refine ss_set 4 (Ev.eq (show EvF _ _ _ _ _ (hnR (rC iR (rC iR (rC iR (rC iR (rC (oR iR) (rC (oR iR) (rO (lR sR))))))))) (m_beside dues).get from ev_callV (x := (dues, ())) (ok_beside T) (hr.mono (by decide)) T.g_beside T.F_beside.kp T.b_beside (ea_cons (r := (lR (hnR (rC iR (rC iR (rC iR (rC iR (rC (oR iR) (rC (oR iR) (rO (lR sR))))))))))) (ev_var (r := (lR (hnR (rC iR (rC iR (rC iR (rC iR (rC (oR iR) (rC (oR iR) (rO (lR sR))))))))))) 1 rfl h_dues) ea_nil) hd2) e_due1.symm) sh.w (fun F3 H_ v_due1 s3 w (hn_ : (hnR (rC iR (rC iR (rC iR (rC iR (rC (oR iR) (rC (oR iR) (rO (lR sR))))))))) F3 v_due1 due1) => ?_) nd
  replace sF := sF.trans s3
  replace h_parts := Mono.mono s3 h_parts
  replace h_dues := Mono.mono s3 h_dues
  replace h_found := Mono.mono s3 h_found
  replace hl_lp1 := s3 _ _ hl_lp1
  replace sh := sh.up s3 w
  have h_due := hn_
  show WSs _ _ _ [some v0, some v1, some v_handed1, some v_found1, some v_due1] _
  obtain ⟨hd3, hm⟩ := req_of hb hm
  refine ss_if (bx_l (bl_or (bx_not (bx_val (show EvF _ _ _ _ _ bR (m_are found1 due1).get from ev_callV (x := (found1, due1, ())) (ok_are T) (hr.mono (by decide)) T.g_are T.F_are.kp T.b_are (ea_cons (r := (pR ad.pc)) (ev_var (r := (pR ad.pc)) 3 rfl h_found) (ea_cons (r := (hnR (rC iR (rC iR (rC iR (rC iR (rC (oR iR) (rC (oR iR) (rO (lR sR)))))))))) (ev_var (r := (hnR (rC iR (rC iR (rC iR (rC iR (rC (oR iR) (rC (oR iR) (rO (lR sR)))))))))) 4 rfl h_due) ea_nil)) hd3))) fun g1 => (bl_one_or (bx_neV hr.units (evp_name 2 rfl sh.gm.hd) (Ev.imp (ev_val 0 rfl) (fun _ _ z => z.trans ep_lp1)) hl_lp1 hr_lp1)))) sh.w (fun c1 H_ w => ?_) (fun c1 H_ w => ?_)
  · replace hm := ite_t hm c1; replace sh := sh.h w
    exact ss_ret (ev_noneO (r := (pR ad.pc))) sh.w (fun F4 H_ v_ s4 w hv_ => kk _ _ _ _ (sF.trans s4) (sh.up s4 w).less hm.symm hv_)
  · replace hm := ite_f hm c1; replace sh := sh.h w
    refine ss_nil ?_
    show WSs _ _ _ [some v0, some v1, some v_handed1, some v_found1, some v_due1] _
    obtain ⟨hd4, hm⟩ := req_of hb hm
    refine ss_clrN (EvU.toN (show EvU _ _ _ _ _ (oL (oF sR)) ((m_words 13) found1).get from ev_pmethU (m := (m_words 13)) (mw := ad.mw) (dw := ad.dw) T.PC T.mw_ (fun k_ => ok_words T 13 k_) (hr.mono (by decide)) T.bw_ (ev_var (r := (pR ad.pc)) 3 rfl h_found) hd4)) sh.w (fun F5 H_ s5 w => ?_)
    replace sF := sF.trans s5
    replace h_found := Mono.mono s5 h_found
    replace h_due := Mono.mono s5 h_due
    replace hl_lp1 := s5 _ _ hl_lp1
    replace sh := sh.up s5 w
    show WSs _ _ _ [some v0, some v1, some v_handed1, some v_found1, some v_due1] _
    replace sh := sh.convV
    refine sh_clr (r := (pR ad.pc)) sh (foc_hd sh.g) (ev_val 2 rfl) (fun F6 M_ H_ d_ s6 sh => ?_)
    replace sF := sF.trans s6
    replace h_found := Mono.mono s6 h_found
    replace h_due := Mono.mono s6 h_due
    replace hl_lp1 := s6 _ _ hl_lp1
    obtain ⟨handed1, e_handed1, hm⟩ := bnd_of hm
    rw [← e_handed1] at sh
    show WSs _ _ _ [some v0, some v1, some v_handed1, some v_found1, some v_due1] _
    obtain ⟨d_, sh⟩ := sh.drop
    obtain ⟨hd5, hm⟩ := req_of hb hm
    refine ss_if (bx_not (bx_val (show EvF _ _ _ _ _ bR (m_are found1 due1).get from ev_callV (x := (found1, due1, ())) (ok_are T) (hr.mono (by decide)) T.g_are T.F_are.kp T.b_are (ea_cons (r := (pR ad.pc)) (ev_var (r := (pR ad.pc)) 3 rfl h_found) (ea_cons (r := (hnR (rC iR (rC iR (rC iR (rC iR (rC (oR iR) (rC (oR iR) (rO (lR sR)))))))))) (ev_var (r := (hnR (rC iR (rC iR (rC iR (rC iR (rC (oR iR) (rC (oR iR) (rO (lR sR)))))))))) 4 rfl h_due) ea_nil)) hd5))) sh.w (fun c2 H_ w => ?_) (fun c2 H_ w => ?_)
    · replace hm := ite_t hm c2; replace sh := sh.h w
      exact ss_ret (ev_noneO (r := (pR ad.pc))) sh.w (fun F7 H_ v_ s7 w hv_ => kk _ _ _ _ (sF.trans s7) (sh.up s7 w).less hm.symm hv_)
    · replace hm := ite_f hm c2; replace sh := sh.h w
      refine ss_nil ?_
      show WSs _ _ _ [some v0, some v1, some v_handed1, some v_found1, some v_due1] _
      exact ss_ret (Ev.someO (r := (pR ad.pc)) (ev_var (r := (pR ad.pc)) 3 rfl h_found)) sh.w (fun F8 H_ v_ s8 w hv_ => kk _ _ _ _ (sF.trans s8) (sh.up s8 w).less hm.symm hv_)
theorem ok_refused (T : Txt K mg ad) : FnOk P w K mg base CX0 5 ad.a_refused ad.d_refused ["_law_parts"] (FSpV (α := (List PT) × Unit) (ac (lR (pR ad.pc)) an) (fun x => m_refused x.1) bR) := by
  have nd : List.Nodup (α := Str) ["_law_parts", "_law_refused_here", "_law_e"] := sc_refused.nd
  refine ok_def T.F_refused sc_refused (fun vs H Q E h => ?_) (fun cdv A outer s H vs Q E hr h => ?_)
  · obtain ⟨F, M, x, ⟨_, _, rfl, _, rfl⟩, _⟩ := h; rfl
  obtain ⟨F, M, ⟨parts, _⟩, ⟨v0, us0, rfl, hp0, rfl⟩, hb, w, kk⟩ := h
  obtain ⟨r, hr0⟩ : ∃ r, m_refused parts = r := ⟨_, rfl⟩
  replace hb : r ≠ .bad := by rw [← hr0]; exact hb
  replace kk : ∀ F2 H2 v y, Same F F2 → Own F2 M H2 → r = .ok y → bR F2 v y → Q v H2 := fun F2 H2 v y a b c e => kk F2 H2 v y a b (hr0.trans c) e
  have hm := hr0; unfold m_refused at hm
  have sF : Same F F := Same.refl _
  have sh := SH.nil w
  have hq0 : (lR (pR ad.pc)) F v0 parts := hp0
  have h_parts := hq0
  show WSs _ _ _ [some v0, none, none] _
  refine ss_setB 1 ev_bl sh.w (fun H_ w => ?_) nd
  replace sh := sh.h w
  show WSs _ _ _ [some v0, some (.bl false), none] _
  refine ss_tryA 2 nd rfl rfl ⟨rfl, by decide, .inl T.k_NoPart⟩ takes0 (fun W_y1 pn_y1 xe_y1 tk_y1 po_y1 hW_y1 => ?_)
  show WSs _ _ _ [some v0, some (.bl false), none] _
  have hc1 := cal_ne hb hm
  rcases res_cases hc1 with ⟨Beside_init1, hy1⟩ | ⟨ee1, ⟨⟩, hy1⟩
  · replace hm := (cal_ok hy1).symm.trans hm
    refine ss_expr (Ev.eq (show EvF _ _ _ _ _ (pR ad.pc) (m_Beside_init parts).get from ev_makePM (A := fun M_ => (ac (rtR M_ (pR ad.pc)) an)) (pc := ad.pc) (kk := .beside) (x := (parts, ())) tk_y1 T.mk_Beside (ok_Beside_init T) (hr.mono (by decide)) T.pk_Beside T.b_Beside_init (ea_cons (r := (rtR _ (pR ad.pc))) (Ev.rt (ev_var (r := (lR (pR ad.pc))) 0 rfl h_parts)) ea_nil) (Res.isOk_of hy1)) (by rw [hy1] <;> rfl)) sh.w (fun F1 H_ s1 w => ?_)
    replace sF := sF.trans s1
    replace h_parts := Mono.mono s1 h_parts
    replace sh := sh.up s1 w
    show WSs _ _ _ [some v0, some (.bl false), none] _
    refine ss_nil ?_
    show WSs _ _ _ [some v0, some (.bl false), none] _
    exact ss_ret (ev_var (r := bR) 1 rfl rfl) sh.w (fun F2 H_ v_ s2 w hv_ => kk _ _ _ _ (sF.trans s2) (sh.up s2 w).less hm.symm hv_)
  · replace hm := (cal_ex hy1).symm.trans hm
    refine ssx_expr (ex_makePM (A := fun M_ => (ac (rtR M_ (pR ad.pc)) an)) (pc := ad.pc) (kk := .beside) (x := (parts, ())) tk_y1 T.mk_Beside (ok_Beside_init T) (hr.mono (by decide)) T.pk_Beside T.b_Beside_init (ea_cons (r := (rtR _ (pR ad.pc))) (Ev.rt (ev_var (r := (lR (pR ad.pc))) 0 rfl h_parts)) ea_nil) hy1 (fun F3 H_ c_ d_ s3 w hR_ => ?_)) sh.w
    replace sF := sF.trans s3
    replace h_parts := Mono.mono s3 h_parts
    replace sh := sh.up s3 w
    cases ee1 with
    | noPart =>
      obtain ⟨rfl, rfl⟩ := hR_
      refine hW_y1 _ _ _ _ ⟨true, T.x_NoPart_NoPart, fun _ a_1 oe_ pn_ na_ hz_1 hx_1 => ?_, fun z_ => (by cases z_)⟩
      show WSs _ _ _ [some v0, some (.bl false), some (.ref a_1)] _
      obtain ⟨hd1, hm⟩ := req_of hb hm
      obtain ⟨refused_here1, e_refused_here1, hm⟩ := bnd_of hm
      refine ss_setB 1 (Ev.eq (ev_hot (y := (m_kinds ()).get) 2 (ok_kinds T) (roomH_mark hr (by decide)) (List.mem_cons_self ..) T.g_kinds T.F_kinds.kp T.b_kinds ⟨⟨hz_1, hx_1⟩, Res.isOk_ne hd1⟩ rfl) e_refused_here1.symm) sh.w (fun H_ w => ?_) nd
      replace sh := sh.h w
      show WSs _ _ _ [some v0, some (.bl refused_here1), some (.ref a_1)] _
      refine ss_nil ?_
      show WSs _ _ _ [some v0, some (.bl refused_here1), none] _
      exact ss_ret (ev_var (r := bR) 1 rfl rfl) sh.w (fun F4 H_ v_ s4 w hv_ => kk _ _ _ _ (sF.trans s4) (sh.up s4 w).less hm.symm hv_)
    | _ => exact absurd (show Res.bad = r from hm).symm hb
theorem ok_law (T : Txt K mg ad) : FnOk P w K mg base CX0 17 ad.a_law ad.d_law ["_law_script"] (FSpV (α := (List Int) × Unit) (ac (rsR K iR) an) (fun x => m_law x.1) bR) := by
  have nd : List.Nodup (α := Str) ["_law_script", "_law_many", "_law_rows", "_law_k", "_law_cell", "_law_parts", "_law_leaf_here", "_law_row_here", "_law_dues", "_law_found", "_law_due", "_law_again"] := sc_law.nd
  refine ok_def T.F_law sc_law (fun vs H Q E h => ?_) (fun cdv A outer s H vs Q E hr h => ?_)
  · obtain ⟨F, M, x, ⟨_, _, rfl, _, rfl⟩, _⟩ := h; rfl
  obtain ⟨F, M, ⟨script, _⟩, ⟨v0, us0, rfl, hp0, rfl⟩, hb, w, kk⟩ := h
  obtain ⟨r, hr0⟩ : ∃ r, m_law script = r := ⟨_, rfl⟩
  replace hb : r ≠ .bad := by rw [← hr0]; exact hb
  replace kk : ∀ F2 H2 v y, Same F F2 → Own F2 M H2 → r = .ok y → bR F2 v y → Q v H2 := fun F2 H2 v y a b c e => kk F2 H2 v y a b (hr0.trans c) e
  have hm := hr0; unfold m_law at hm
  have sF : Same F F := Same.refl _
  have sh := SH.nil w
  have hq0 : (rsR K iR) F v0 script := hp0
  have h_script := hq0
  show WSs _ _ _ [some v0, none, none, none, none, none, none, none, none, none, none, none] _
  obtain ⟨hd1, hm⟩ := req_of hb hm
  obtain ⟨many1, e_many1, hm⟩ := bnd_of hm
  refine ss_setI 1 (Ev.eq (ev_add ev_int (ev_mod (show EvF _ _ _ _ _ iR (m_cell_at script (0 : Int)).get from ev_callV (x := (script, (0 : Int), ())) (ok_cell_at T) (hr.mono (by decide)) T.g_cell_at T.F_cell_at.kp T.b_cell_at (ea_cons (r := (rsR K iR)) (ev_var (r := (rsR K iR)) 0 rfl h_script) (ea_cons (r := iR) ev_int ea_nil)) hd1) ev_int)) e_many1.symm) sh.w (fun H_ w => ?_) nd
  replace sh := sh.h w
  show WSs _ _ _ [some v0, some (.int many1), none, none, none, none, none, none, none, none, none, none] _
  obtain ⟨hd2, hm⟩ := req_of hb hm
  obtain ⟨rows1, e_rows1, hm⟩ := bnd_of hm
  refine ss_lcU (r := iR) (o := (oL (oF (hnR (rC iR (rC iR (rC iR (rC iR (rC (oR iR) (rC (oR iR) (rO (lR sR)))))))))))) (hb := show blkC ["_law_script", "_law_many", "_law_rows", "_law_k", "_law_cell", "_law_parts", "_law_leaf_here", "_law_row_here", "_law_dues", "_law_found", "_law_due", "_law_again"] (defScope s_law) _ [("_law_k", 3)] = true from by decide +kernel) 2 3 (fun (k_c1 : Int) => true) (fun (k_c1 : Int) => [(m_leaf (((4 : Int) * k_c1) + (1 : Int))).get]) (ei_range1 T.range_n (ev_var (r := iR) 1 rfl rfl) hd2.1) (fun k_c1 vk_c1 Fc1 Mc1 hm1 sc1 sm1 hk_c1 Y hY => by obtain ⟨_, _, _, _, _, rfl⟩ := hY; cases (show vk_c1 = V.int k_c1 from hk_c1); exact ⟨ets_nil, fun g1 => (EvN.toU (en_lst (r := (hnR (rC iR (rC iR (rC iR (rC iR (rC (oR iR) (rC (oR iR) (rO (lR sR)))))))))) (ea_consL (show EvF _ _ _ _ _ (hnR (rC iR (rC iR (rC iR (rC iR (rC (oR iR) (rC (oR iR) (rO (lR sR))))))))) (m_leaf (((4 : Int) * k_c1) + (1 : Int))).get from ev_callV (x := ((((4 : Int) * k_c1) + (1 : Int)), ())) (ok_leaf T) (hr.mono (by decide)) T.g_leaf T.F_leaf.kp T.b_leaf (ea_cons (r := iR) (ev_add (ev_mul ev_int (ev_var (r := iR) 3 rfl rfl) (hd2.2.1 k_c1 hm1).1) ev_int) ea_nil) (hd2.2.1 k_c1 hm1).2) ea_nilL)))⟩) hd2.2.2 nd sh (fun F1 M_ H_ v_rows1 d_ s1 sh => ?_)
  replace sh := sh.lcT
  rw [← e_rows1] at sh
  replace sF := sF.trans s1
  replace h_script := Mono.mono s1 h_script
  show WSs _ _ _ [some v0, some (.int many1), some v_rows1, none, none, none, none, none, none, none, none, none] _
  obtain ⟨BL1, KL1, eBL1, eKL1, hm⟩ := forC1_of hm
  refine ss_for 4 (ei_list (r := iR) (Ev.rs (EvN.fz (en_slice (Ev.sd (ev_var (r := (rsR K iR)) 0 rfl h_script)) eo_none (eo_some ev_int))))) sh.w (fun i F2 M2 σ2 => ∃ (rows2 : (List (List (Int × Int × Int × Int × (Option Int) × (Option Int) × (List Str))))) (o_cell1 : Option V) (d2 : List Addr), σ2 = [some v0, some (.int many1), some v_rows1, none, o_cell1, none, none, none, none, none, none, none] ∧ SG M [] (oC (oL (oL (oF (hnR (rC iR (rC iR (rC iR (rC iR (rC (oR iR) (rC (oR iR) (rO (lR sR)))))))))))) oN) d2 F2 M2 [v_rows1] (rows2, ()) ∧ forC1 BL1 KL1 (List.drop i (cutL script none (some (63 : Int)))) rows2 = r) (fun F_ s_ => ?_) ?_ ?_ ?_ PassesOwn.never nd
  · exact ⟨rows1, none, _, rfl, sh.sg.up s_, hm⟩
  · rintro i_ F_ F2_ M_ σ_ s_ ⟨rows2, o_cell1, d_, e1_, g_, hm_⟩
    exact ⟨rows2, o_cell1, d_, e1_, g_.up s_, hm_⟩
  · rintro F2 i1 cell1 v_cell1 F3 M_ H_ σ_ s2 hx1 ⟨rows2, o_cell1, d_, rfl, sg_, hm⟩ s3 w hi_1
    have sh := sg_.sh w
    replace sF := sF.trans (s2.trans s3)
    replace h_script := Mono.mono (s2.trans s3) h_script
    have hm := forC1_at eBL1 hx1 hm
    cases (show v_cell1 = V.int cell1 from hi_1)
    have sL1 := s3
    show WSs _ _ _ [some v0, some (.int many1), some v_rows1, none, some (.int cell1), none, none, none, none, none, none, none] _
    obtain ⟨hd3, hm⟩ := req_of hb hm
    obtain ⟨l_pa1, us_pa1, u_pa1, e_pa1, hM_pa1, at_pa1, f_pa1⟩ := foc_ixI (foc_hd sh.g) hd3.2
    obtain ⟨hd4, hm⟩ := req_of hb hm
    refine sh_app (r := (hnR (rC iR (rC iR (rC iR (rC iR (rC (oR iR) (rC (oR iR) (rO (lR sR)))))))))) sh f_pa1 (evv_ix (Ev.imp (ev_val 2 rfl) (fun _ _ z => z.trans e_pa1)) hM_pa1 (ev_mod (ev_div (ev_var (r := iR) 4 rfl rfl) ev_int) (ev_var (r := iR) 1 rfl rfl) hd3.1) at_pa1) (show EvF _ _ _ _ _ (hnR (rC iR (rC iR (rC iR (rC iR (rC (oR iR) (rC (oR iR) (rO (lR sR))))))))) (m_leaf (cell1 / (7 : Int))).get from ev_callV (x := ((cell1 / (7 : Int)), ())) (ok_leaf T) (hr.mono (by decide)) T.g_leaf T.F_leaf.kp T.b_leaf (ea_cons (r := iR) (ev_div (ev_var (r := iR) 4 rfl rfl) ev_int) ea_nil) hd4.1) hd4.2 (fun F4 M_ H_ d_ s4 sh => ?_)
    replace sF := sF.trans s4
    replace sL1 := sL1.trans s4
    obtain ⟨rows3, e_rows3, hm⟩ := bnd_of hm
    rw [← e_rows3] at sh
    show WSs _ _ _ [some v0, some (.int many1), some v_rows1, none, some (.int cell1), none, none, none, none, none, none, none] _
    refine ss_nil ?_
    exact ⟨_, _, sL1, sh.w, rows3, (some (.int cell1)), _, rfl, sh.sg, hm⟩
  · rintro F5 M_ H_ σ_ s5 w ⟨rows2, o_cell1, d_, rfl, sg_, hm⟩
    have sh := sg_.sh w
    replace sF := sF.trans s5
    replace h_script := Mono.mono s5 h_script
    have hm := forC1_end eKL1 hm
    show WSs _ _ _ [some v0, some (.int many1), some v_rows1, none, o_cell1, none, none, none, none, none, none, none] _
    obtain ⟨F6, M_, d_, s6, sh, h_rows_⟩ := sh.fz
    replace sF := sF.trans s6
    replace h_script := Mono.mono s6 h_script
    have h_rows : (lR (lR (hnR (rC iR (rC iR (rC iR (rC iR (rC (oR iR) (rC (oR iR) (rO (lR sR))))))))))) F6 v_rows1 rows2 := h_rows_
    show WSs _ _ _ [some v0, some (.int many1), some v_rows1, none, o_cell1, none, none, none, none, none, none, none] _
    obtain ⟨hd5, hm⟩ := req_of hb hm
    obtain ⟨parts1, e_parts1, hm⟩ := bnd_of hm
    refine ss_lc (r := (lR (hnR (rC iR (rC iR (rC iR (rC iR (rC (oR iR) (rC (oR iR) (rO (lR sR))))))))))) (s := (pR ad.pc)) (hb := show blkC ["_law_script", "_law_many", "_law_rows", "_law_k", "_law_cell", "_law_parts", "_law_leaf_here", "_law_row_here", "_law_dues", "_law_found", "_law_due", "_law_again"] (defScope s_law) _ [("_law_row_here", 7)] = true from by decide +kernel) 5 7 (fun (row_here_c2 : (List (Int × Int × Int × Int × (Option Int) × (Option Int) × (List Str)))) => true) (fun (row_here_c2 : (List (Int × Int × Int × Int × (Option Int) × (Option Int) × (List Str)))) => (m_Row_init (row_here_c2.map (fun (leaf_here_c3 : (Int × Int × Int × Int × (Option Int) × (Option Int) × (List Str))) => (m_made_leaf leaf_here_c3).get))).get) (ei_list (r := (lR (hnR (rC iR (rC iR (rC iR (rC iR (rC (oR iR) (rC (oR iR) (rO (lR sR))))))))))) (Ev.rs (ev_var (r := (lR (lR (hnR (rC iR (rC iR (rC iR (rC iR (rC (oR iR) (rC (oR iR) (rO (lR sR)))))))))))) 2 rfl h_rows))) (fun row_here_c2 vrow_here_c2 Fc2 Mc2 hm2 sc2 sm2 hrow_here_c2 Y hY => by obtain ⟨_, _, _, _, _, rfl⟩ := hY; have u1 := Mono.sub sc2 h_rows; exact ⟨ets_nil, fun g2 => (show EvF _ _ _ _ _ (pR ad.pc) (m_Row_init (row_here_c2.map (fun (leaf_here_c3 : (Int × Int × Int × Int × (Option Int) × (Option Int) × (List Str))) => (m_made_leaf leaf_here_c3).get))).get from ev_makePM (A := fun M_ => (ac (rtR M_ (pR ad.pc)) an)) (pc := ad.pc) (kk := .row) (x := ((row_here_c2.map (fun (leaf_here_c3 : (Int × Int × Int × Int × (Option Int) × (Option Int) × (List Str))) => (m_made_leaf leaf_here_c3).get)), ())) takes0 T.mk_Row (ok_Row_init T) (hr.mono (by decide)) T.pk_Row T.b_Row_init (ea_cons (r := (rtR _ (pR ad.pc))) (Ev.rt (EvN.fz (EvN.lcT (en_lc (r := (hnR (rC iR (rC iR (rC iR (rC iR (rC (oR iR) (rC (oR iR) (rO (lR sR)))))))))) (s := (pR ad.pc)) (hb := blkC_in (show blkC ["_law_script", "_law_many", "_law_rows", "_law_k", "_law_cell", "_law_parts", "_law_leaf_here", "_law_row_here", "_law_dues", "_law_found", "_law_due", "_law_again"] (relab _ (defScope s_law)) _ [("_law_leaf_here", 6)] = true from by decide +kernel)) 6 (fun (leaf_here_c3 : (Int × Int × Int × Int × (Option Int) × (Option Int) × (List Str))) => true) (fun (leaf_here_c3 : (Int × Int × Int × Int × (Option Int) × (Option Int) × (List Str))) => (m_made_leaf leaf_here_c3).get) (ei_list (r := (hnR (rC iR (rC iR (rC iR (rC iR (rC (oR iR) (rC (oR iR) (rO (lR sR)))))))))) (Ev.rs (ev_var (r := (lR (hnR (rC iR (rC iR (rC iR (rC iR (rC (oR iR) (rC (oR iR) (rO (lR sR))))))))))) 7 rfl hrow_here_c2))) (fun leaf_here_c3 vleaf_here_c3 Fc3 Mc3 hm3 sc3 sm3 hleaf_here_c3 Y hY => by obtain ⟨_, _, _, _, _, rfl⟩ := hY; have u2 := Mono.sub sc3 hrow_here_c2; exact ⟨ets_nil, fun g3 => (show EvF _ _ _ _ _ (pR ad.pc) (m_made_leaf leaf_here_c3).get from ev_callV (x := (leaf_here_c3, ())) (ok_made_leaf T) (hr.mono (by decide)) T.g_made_leaf T.F_made_leaf.kp T.b_made_leaf (ea_cons (r := (hnR (rC iR (rC iR (rC iR (rC iR (rC (oR iR) (rC (oR iR) (rO (lR sR)))))))))) (ev_var (r := (hnR (rC iR (rC iR (rC iR (rC iR (rC (oR iR) (rC (oR iR) (rO (lR sR)))))))))) 6 rfl hleaf_here_c3) ea_nil) ((hd5.1 row_here_c2 hm2).1 leaf_here_c3 hm3))⟩) (hd5.1 row_here_c2 hm2).2.1 nd)))) ea_nil) (hd5.1 row_here_c2 hm2).2.2)⟩) hd5.2 nd sh.w (fun F7 H_ l1 vs1 s7 nl_ w hA_ => ?_)
    replace hA_ := lcT_of hA_
    rw [← e_parts1] at hA_
    replace sh := sh.lcN s7 nl_ w hA_
    replace sF := sF.trans s7
    replace h_rows := Mono.mono s7 h_rows
    show WSs _ _ _ [some v0, some (.int many1), some v_rows1, none, o_cell1, some (.ref l1), none, none, none, none, none, none] _
    obtain ⟨hd6, hm⟩ := req_of hb hm
    obtain ⟨dues1, e_dues1, hm⟩ := bnd_of hm
    refine ss_lc (r := (lR (hnR (rC iR (rC iR (rC iR (rC iR (rC (oR iR) (rC (oR iR) (rO (lR sR))))))))))) (s := (hnR (rC iR (rC iR (rC iR (rC iR (rC (oR iR) (rC (oR iR) (rO (lR sR)))))))))) (hb := show blkC ["_law_script", "_law_many", "_law_rows", "_law_k", "_law_cell", "_law_parts", "_law_leaf_here", "_law_row_here", "_law_dues", "_law_found", "_law_due", "_law_again"] (defScope s_law) _ [("_law_row_here", 7)] = true from by decide +kernel) 8 7 (fun (row_here_c4 : (List (Int × Int × Int × Int × (Option Int) × (Option Int) × (List Str)))) => true) (fun (row_here_c4 : (List (Int × Int × Int × Int × (Option Int) × (Option Int) × (List Str)))) => (m_row row_here_c4).get) (ei_list (r := (lR (hnR (rC iR (rC iR (rC iR (rC iR (rC (oR iR) (rC (oR iR) (rO (lR sR))))))))))) (Ev.rs (ev_var (r := (lR (lR (hnR (rC iR (rC iR (rC iR (rC iR (rC (oR iR) (rC (oR iR) (rO (lR sR)))))))))))) 2 rfl h_rows))) (fun row_here_c4 vrow_here_c4 Fc4 Mc4 hm4 sc4 sm4 hrow_here_c4 Y hY => by obtain ⟨_, _, _, _, _, rfl⟩ := hY; have u3 := Mono.sub sc4 h_rows; exact ⟨ets_nil, fun g4 => (show EvF _ _ _ _ _ (hnR (rC iR (rC iR (rC iR (rC iR (rC (oR iR) (rC (oR iR) (rO (lR sR))))))))) (m_row row_here_c4).get from ev_callV (x := (row_here_c4, ())) (ok_row T) (hr.mono (by decide)) T.g_row T.F_row.kp T.b_row (ea_cons (r := (lR (hnR (rC iR (rC iR (rC iR (rC iR (rC (oR iR) (rC (oR iR) (rO (lR sR))))))))))) (ev_var (r := (lR (hnR (rC iR (rC iR (rC iR (rC iR (rC (oR iR) (rC (oR iR) (rO (lR sR))))))))))) 7 rfl hrow_here_c4) ea_nil) (hd6.1 row_here_c4 hm4))⟩) hd6.2 nd sh.w (fun F8 H_ l2 vs2 s8 nl_ w hA_ => ?_)
    replace hA_ := lcT_of hA_
    rw [← e_dues1] at hA_
    replace sh := sh.lcN s8 nl_ w hA_
    replace sF := sF.trans s8
    replace h_rows := Mono.mono s8 h_rows
    show WSs _ _ _ [some v0, some (.int many1), some v_rows1, none, o_cell1, some (.ref l1), none, none, some (.ref l2), none, none, none] _
    obtain ⟨d_, sh⟩ := sh.perm PermS.sw
    obtain ⟨hd7, hm⟩ := req_of hb hm
    refine sh_put (r := (pR ad.pc)) sh (foc_hd sh.g) (ev_val 5 rfl) (show EvF _ _ _ _ _ (pR ad.pc) (m_made_leaf (gI (gI rows2 (0 : Int)) (-(1 : Int)))).get from ev_callV (x := ((gI (gI rows2 (0 : Int)) (-(1 : Int))), ())) (ok_made_leaf T) (hr.mono (by decide)) T.g_made_leaf T.F_made_leaf.kp T.b_made_leaf (ea_cons (r := (hnR (rC iR (rC iR (rC iR (rC iR (rC (oR iR) (rC (oR iR) (rO (lR sR)))))))))) (ev_ix (r := (hnR (rC iR (rC iR (rC iR (rC iR (rC (oR iR) (rC (oR iR) (rO (lR sR)))))))))) (Ev.rd (ev_ix (r := (lR (hnR (rC iR (rC iR (rC iR (rC iR (rC (oR iR) (rC (oR iR) (rO (lR sR))))))))))) (Ev.rd (ev_var (r := (lR (lR (hnR (rC iR (rC iR (rC iR (rC iR (rC (oR iR) (rC (oR iR) (rO (lR sR)))))))))))) 2 rfl h_rows)) ev_int hd7.1)) (ev_neg ev_int) hd7.2.1) ea_nil) hd7.2.2.1) ev_int hd7.2.2.2 (fun F9 M_ H_ d_ s9 sh => ?_)
    replace sF := sF.trans s9
    replace h_rows := Mono.mono s9 h_rows
    obtain ⟨parts2, e_parts2, hm⟩ := bnd_of hm
    rw [← e_parts2] at sh
    show WSs _ _ _ [some v0, some (.int many1), some v_rows1, none, o_cell1, some (.ref l1), none, none, some (.ref l2), none, none, none] _
    obtain ⟨F10, M_, d_, s10, sh, h_parts_⟩ := sh.fz
    replace sF := sF.trans s10
    replace h_rows := Mono.mono s10 h_rows
    have h_parts : (lR (pR ad.pc)) F10 (.ref l1) parts2 := h_parts_
    show WSs _ _ _ [some v0, some (.int many1), some v_rows1, none, o_cell1, some (.ref l1), none, none, some (.ref l2), none, none, none] _
    obtain ⟨hd8, hm⟩ := req_of hb hm
    refine sh_put (r := (hnR (rC iR (rC iR (rC iR (rC iR (rC (oR iR) (rC (oR iR) (rO (lR sR)))))))))) sh (foc_hd sh.g) (ev_val 8 rfl) (ev_ix (r := (hnR (rC iR (rC iR (rC iR (rC iR (rC (oR iR) (rC (oR iR) (rO (lR sR)))))))))) (Ev.rd (ev_ix (r := (lR (hnR (rC iR (rC iR (rC iR (rC iR (rC (oR iR) (rC (oR iR) (rO (lR sR))))))))))) (Ev.rd (ev_var (r := (lR (lR (hnR (rC iR (rC iR (rC iR (rC iR (rC (oR iR) (rC (oR iR) (rO (lR sR)))))))))))) 2 rfl h_rows)) ev_int hd8.1)) (ev_neg ev_int) hd8.2.1) ev_int hd8.2.2 (fun F11 M_ H_ d_ s11 sh => ?_)
    replace sF := sF.trans s11
    replace h_rows := Mono.mono s11 h_rows
    replace h_parts := Mono.mono s11 h_parts
    obtain ⟨dues2, e_dues2, hm⟩ := bnd_of hm
    rw [← e_dues2] at sh
    show WSs _ _ _ [some v0, some (.int many1), some v_rows1, none, o_cell1, some (.ref l1), none, none, some (.ref l2), none, none, none] _
    obtain ⟨F12, M_, d_, s12, sh, h_dues_⟩ := sh.fz
    replace sF := sF.trans s12
    replace h_rows := Mono.mono s12 h_rows
    replace h_parts := Mono.mono s12 h_parts
    have h_dues : (lR (hnR (rC iR (rC iR (rC iR (rC iR (rC (oR iR) (rC (oR iR) (rO (lR sR)))))))))) F12 (.ref l2) dues2 := h_dues_
    show WSs _ _ _ [some v0, some (.int many1), some v_rows1, none, o_cell1, some (.ref l1), none, none, some (.ref l2), none, none, none] _
    obtain ⟨hd9, hm⟩ := req_of hb hm
    obtain ⟨found1, e_found1, hm⟩ := bnd_of hm
    refine ss_set 9 (Ev.eq (show EvF _ _ _ _ _ (oR (pR ad.pc)) (m_good parts2 dues2).get from ev_callV (x := (parts2, dues2, ())) (ok_good T) (hr.mono (by decide)) T.g_good T.F_good.kp T.b_good (ea_cons (r := (lR (pR ad.pc))) (ev_var (r := (lR (pR ad.pc))) 5 rfl h_parts) (ea_cons (r := (lR (hnR (rC iR (rC iR (rC iR (rC iR (rC (oR iR) (rC (oR iR) (rO (lR sR))))))))))) (ev_var (r := (lR (hnR (rC iR (rC iR (rC iR (rC iR (rC (oR iR) (rC (oR iR) (rO (lR sR))))))))))) 8 rfl h_dues) ea_nil)) hd9) e_found1.symm) sh.w (fun F13 H_ v_found1 s13 w (hn_ : (oR (pR ad.pc)) F13 v_found1 found1) => ?_) nd
    replace sF := sF.trans s13
    replace h_parts := Mono.mono s13 h_parts
    replace h_dues := Mono.mono s13 h_dues
    replace sh := sh.up s13 w
    have h_found := hn_
    show WSs _ _ _ [some v0, some (.int many1), some v_rows1, none, o_cell1, some (.ref l1), none, none, some (.ref l2), some v_found1, none, none] _
    refine ss_if (bx_isN (ev_var (r := (oR (pR ad.pc))) 9 rfl h_found)) sh.w (fun c5 H_ w => ?_) (fun c5 H_ w => ?_)
    · replace hm := ite_t hm c5; replace sh := sh.h w
      exact ss_ret ev_bl sh.w (fun F14 H_ v_ s14 w hv_ => kk _ _ _ _ (sF.trans s14) (sh.up s14 w).less hm.symm hv_)
    · replace hm := ite_f hm c5; replace sh := sh.h w
      refine ss_nil ?_
      show WSs _ _ _ [some v0, some (.int many1), some v_rows1, none, o_cell1, some (.ref l1), none, none, some (.ref l2), some v_found1, none, none] _
      obtain ⟨hd10, hm⟩ := req_of hb hm
      obtain ⟨due1, e_due1, hm⟩ := bnd_of hm
      refine ss_set 10 (Ev.eq (show EvF _ _ _ _ _ (hnR (rC iR (rC iR (rC iR (rC iR (rC (oR iR) (rC (oR iR) (rO (lR sR))))))))) (m_beside dues2).get from ev_callV (x := (dues2, ())) (ok_beside T) (hr.mono (by decide)) T.g_beside T.F_beside.kp T.b_beside (ea_cons (r := (lR (hnR (rC iR (rC iR (rC iR (rC iR (rC (oR iR) (rC (oR iR) (rO (lR sR))))))))))) (ev_var (r := (lR (hnR (rC iR (rC iR (rC iR (rC iR (rC (oR iR) (rC (oR iR) (rO (lR sR))))))))))) 8 rfl h_dues) ea_nil) hd10) e_due1.symm) sh.w (fun F15 H_ v_due1 s15 w (hn_ : (hnR (rC iR (rC iR (rC iR (rC iR (rC (oR iR) (rC (oR iR) (rO (lR sR))))))))) F15 v_due1 due1) => ?_) nd
      replace sF := sF.trans s15
      replace h_parts := Mono.mono s15 h_parts
      replace h_dues := Mono.mono s15 h_dues
      replace h_found := Mono.mono s15 h_found
      replace sh := sh.up s15 w
      have h_due := hn_
      show WSs _ _ _ [some v0, some (.int many1), some v_rows1, none, o_cell1, some (.ref l1), none, none, some (.ref l2), some v_found1, some v_due1, none] _
      obtain ⟨hd11, hm⟩ := req_of hb hm
      obtain ⟨again1, e_again1, hm⟩ := bnd_of hm
      refine ss_set 11 (Ev.eq (show EvF _ _ _ _ _ (oR (pR ad.pc)) (m_good [(oG found1), (gI parts2 (1 : Int)), (oG found1)] [due1, (gI dues2 (1 : Int)), due1]).get from ev_callV (x := ([(oG found1), (gI parts2 (1 : Int)), (oG found1)], [due1, (gI dues2 (1 : Int)), due1], ())) (ok_good T) (hr.mono (by decide)) T.g_good T.F_good.kp T.b_good (ea_cons (r := (lR (pR ad.pc))) (EvN.fz (en_lst (r := (pR ad.pc)) (ea_consL (Ev.oget (ev_var (r := (oR (pR ad.pc))) 9 rfl h_found) (oG_is c5)) (ea_consL (ev_ix (r := (pR ad.pc)) (Ev.rd (ev_var (r := (lR (pR ad.pc))) 5 rfl h_parts)) ev_int hd11.1) (ea_consL (Ev.oget (ev_var (r := (oR (pR ad.pc))) 9 rfl h_found) (oG_is c5)) ea_nilL))))) (ea_cons (r := (lR (hnR (rC iR (rC iR (rC iR (rC iR (rC (oR iR) (rC (oR iR) (rO (lR sR))))))))))) (EvN.fz (en_lst (r := (hnR (rC iR (rC iR (rC iR (rC iR (rC (oR iR) (rC (oR iR) (rO (lR sR)))))))))) (ea_consL (ev_var (r := (hnR (rC iR (rC iR (rC iR (rC iR (rC (oR iR) (rC (oR iR) (rO (lR sR)))))))))) 10 rfl h_due) (ea_consL (ev_ix (r := (hnR (rC iR (rC iR (rC iR (rC iR (rC (oR iR) (rC (oR iR) (rO (lR sR)))))))))) (Ev.rd (ev_var (r := (lR (hnR (rC iR (rC iR (rC iR (rC iR (rC (oR iR) (rC (oR iR) (rO (lR sR))))))))))) 8 rfl h_dues)) ev_int hd11.2.1) (ea_consL (ev_var (r := (hnR (rC iR (rC iR (rC iR (rC iR (rC (oR iR) (rC (oR iR) (rO (lR sR)))))))))) 10 rfl h_due) ea_nilL))))) ea_nil)) hd11.2.2) e_again1.symm) sh.w (fun F16 H_ v_again1 s16 w (hn_ : (oR (pR ad.pc)) F16 v_again1 again1) => ?_) nd
      replace sF := sF.trans s16
      replace h_parts := Mono.mono s16 h_parts
      replace h_dues := Mono.mono s16 h_dues
      replace h_found := Mono.mono s16 h_found
      replace h_due := Mono.mono s16 h_due
      replace sh := sh.up s16 w
      have h_again := hn_
      show WSs _ _ _ [some v0, some (.int many1), some v_rows1, none, o_cell1, some (.ref l1), none, none, some (.ref l2), some v_found1, some v_due1, some v_again1] _
      obtain ⟨hd12, hm⟩ := req_of hb hm
      refine ss_if (bx_l (bl_or (bx_isN (ev_var (r := (oR (pR ad.pc))) 11 rfl h_again)) fun g5 => (bl_or (bx_not (bx_val (show EvF _ _ _ _ _ bR (m_refused ([] : List PT)).get from ev_callV (x := (([] : List PT), ())) (ok_refused T) (hr.mono (by decide)) T.g_refused T.F_refused.kp T.b_refused (ea_cons (r := (lR (pR ad.pc))) (EvN.fz (en_lst (r := (pR ad.pc)) ea_nilL)) ea_nil) (hd12 g5).1))) fun g6 => (bl_or (bx_not (bx_val (show EvF _ _ _ _ _ bR (m_refused [(oG found1)]).get from ev_callV (x := ([(oG found1)], ())) (ok_refused T) (hr.mono (by decide)) T.g_refused T.F_refused.kp T.b_refused (ea_cons (r := (lR (pR ad.pc))) (EvN.fz (en_lst (r := (pR ad.pc)) (ea_consL (Ev.oget (ev_var (r := (oR (pR ad.pc))) 9 rfl h_found) (oG_is c5)) ea_nilL))) ea_nil) ((hd12 g5).2 g6).1))) fun g7 => (bl_one_or (bx_not (bx_val (show EvF _ _ _ _ _ bR (m_refused (cutL parts2 none (some (1 : Int)))).get from ev_callV (x := ((cutL parts2 none (some (1 : Int))), ())) (ok_refused T) (hr.mono (by decide)) T.g_refused T.F_refused.kp T.b_refused (ea_cons (r := (lR (pR ad.pc))) (EvN.fz (en_slice (Ev.rd (ev_var (r := (lR (pR ad.pc))) 5 rfl h_parts)) eo_none (eo_some ev_int))) ea_nil) (((hd12 g5).2 g6).2 g7))))))))) sh.w (fun c6 H_ w => ?_) (fun c6 H_ w => ?_)
      · replace hm := ite_t hm c6; replace sh := sh.h w
        exact ss_ret ev_bl sh.w (fun F17 H_ v_ s17 w hv_ => kk _ _ _ _ (sF.trans s17) (sh.up s17 w).less hm.symm hv_)
      · replace hm := ite_f hm c6; replace sh := sh.h w
        refine ss_nil ?_
        show WSs _ _ _ [some v0, some (.int many1), some v_rows1, none, o_cell1, some (.ref l1), none, none, some (.ref l2), some v_found1, some v_due1, some v_again1] _
        obtain ⟨hd13, hm⟩ := req_of hb hm
        exact ss_ret (show EvF _ _ _ _ _ bR (m_are (oG found1) due1).get from ev_callV (x := ((oG found1), due1, ())) (ok_are T) (hr.mono (by decide)) T.g_are T.F_are.kp T.b_are (ea_cons (r := (pR ad.pc)) (Ev.oget (ev_var (r := (oR (pR ad.pc))) 9 rfl h_found) (oG_is c5)) (ea_cons (r := (hnR (rC iR (rC iR (rC iR (rC iR (rC (oR iR) (rC (oR iR) (rO (lR sR)))))))))) (ev_var (r := (hnR (rC iR (rC iR (rC iR (rC iR (rC (oR iR) (rC (oR iR) (rO (lR sR)))))))))) 10 rfl h_due) ea_nil)) hd13) sh.w (fun F18 H_ v_ s18 w hv_ => kk _ _ _ _ (sF.trans s18) (sh.up s18 w).less hm.symm hv_)
end
instance : Lams := ⟨[]⟩
theorem all_mk {l : PySem.W.OpenLaw} {w : World} {K : PySem.W.Frag} {h : Heap} {mg : Str → Option Value} {fa : Addr} (X : K.In h) (G : h.Ns mainGlobals mg) (hfa : mg "law" = some (.ref fa))
    {f0 f1 f2 f3 f4 f5 f6 f7 f8 f9 f10 f11 f12 f13 f14 f15 f16 f17 f18 f19 f20 f21 f22 f23 f24 f25 f26 f27 : Addr}
    {od0 an0 : Option Addr} {sl0 : Array (Option Value)} {oc0 kV0 dc0 pm0 cd0 ct0 : Value}
    {od1 an1 : Option Addr} {sl1 : Array (Option Value)} {oc1 kV1 dc1 pm1 cd1 ct1 : Value}
    {od2 an2 : Option Addr} {sl2 : Array (Option Value)} {oc2 kV2 dc2 pm2 cd2 ct2 : Value}
    {od3 an3 : Option Addr} {sl3 : Array (Option Value)} {oc3 kV3 dc3 pm3 cd3 ct3 : Value}
    {od4 an4 : Option Addr} {sl4 : Array (Option Value)} {oc4 kV4 dc4 pm4 cd4 ct4 : Value}
    {od5 an5 : Option Addr} {sl5 : Array (Option Value)} {oc5 kV5 dc5 pm5 cd5 ct5 : Value}
    {od6 an6 : Option Addr} {sl6 : Array (Option Value)} {oc6 kV6 dc6 pm6 cd6 ct6 : Value}
    {od7 an7 : Option Addr} {sl7 : Array (Option Value)} {oc7 kV7 dc7 pm7 cd7 ct7 : Value}
    {od8 an8 : Option Addr} {sl8 : Array (Option Value)} {oc8 kV8 dc8 pm8 cd8 ct8 : Value}
    {od9 an9 : Option Addr} {sl9 : Array (Option Value)} {oc9 kV9 dc9 pm9 cd9 ct9 : Value}
    {od10 an10 : Option Addr} {sl10 : Array (Option Value)} {oc10 kV10 dc10 pm10 cd10 ct10 : Value}
    {od11 an11 : Option Addr} {sl11 : Array (Option Value)} {oc11 kV11 dc11 pm11 cd11 ct11 : Value}
    {od12 an12 : Option Addr} {sl12 : Array (Option Value)} {oc12 kV12 dc12 pm12 cd12 ct12 : Value}
    {od13 an13 : Option Addr} {sl13 : Array (Option Value)} {oc13 kV13 dc13 pm13 cd13 ct13 : Value}
    {od14 an14 : Option Addr} {sl14 : Array (Option Value)} {oc14 kV14 dc14 pm14 cd14 ct14 : Value}
    {od15 an15 : Option Addr} {sl15 : Array (Option Value)} {oc15 kV15 dc15 pm15 cd15 ct15 : Value}
    {od16 an16 : Option Addr} {sl16 : Array (Option Value)} {oc16 kV16 dc16 pm16 cd16 ct16 : Value}
    {od17 an17 : Option Addr} {sl17 : Array (Option Value)} {oc17 kV17 dc17 pm17 cd17 ct17 : Value}
    {od18 an18 : Option Addr} {sl18 : Array (Option Value)} {oc18 kV18 dc18 pm18 cd18 ct18 : Value}
    {od19 an19 : Option Addr} {sl19 : Array (Option Value)} {oc19 kV19 dc19 pm19 cd19 ct19 : Value}
    {od20 an20 : Option Addr} {sl20 : Array (Option Value)} {oc20 kV20 dc20 pm20 cd20 ct20 : Value}
    {od21 an21 : Option Addr} {sl21 : Array (Option Value)} {oc21 kV21 dc21 pm21 cd21 ct21 : Value}
    {od22 an22 : Option Addr} {sl22 : Array (Option Value)} {oc22 kV22 dc22 pm22 cd22 ct22 : Value}
    {od23 an23 : Option Addr} {sl23 : Array (Option Value)} {oc23 kV23 dc23 pm23 cd23 ct23 : Value}
    {od24 an24 : Option Addr} {sl24 : Array (Option Value)} {oc24 kV24 dc24 pm24 cd24 ct24 : Value}
    {od25 an25 : Option Addr} {sl25 : Array (Option Value)} {oc25 kV25 dc25 pm25 cd25 ct25 : Value}
    {od26 an26 : Option Addr} {sl26 : Array (Option Value)} {oc26 kV26 dc26 pm26 cd26 ct26 : Value}
    {od27 an27 : Option Addr} {sl27 : Array (Option Value)} {oc27 kV27 dc27 pm27 cd27 ct27 : Value}
    {C_WorksError : Addr} (ac_WorksError : PySem.W.nsIn K mainGlobals "WorksError" = some (some (.ref C_WorksError)))
    (ec_WorksError : PySem.W.subIn K (.ref C_WorksError) (.type "BaseException") = some true)
    (tc_WorksError : PySem.W.typeIn K (.ref C_WorksError) = some (.type "type"))
    (ic_WorksError : PySem.W.isClsIn K C_WorksError = true)
    (sp_WorksError : PySem.W.specialIn K (.ref C_WorksError) "__getattribute__" = some (some (.builtin "type.__getattribute__")))
    (rd_WorksError : PySem.W.readsIn K C_WorksError (.type "type") = true)
    (fd_WorksError : PySem.W.findCls K (.ref C_WorksError) (.type "type") "__init__" = some (.val (.builtin "ValueError.__init__")))
    {C_NoPart : Addr} (ac_NoPart : PySem.W.nsIn K mainGlobals "NoPart" = some (some (.ref C_NoPart)))
    (ec_NoPart : PySem.W.subIn K (.ref C_NoPart) (.type "BaseException") = some true)
    (tc_NoPart : PySem.W.typeIn K (.ref C_NoPart) = some (.type "type"))
    (ic_NoPart : PySem.W.isClsIn K C_NoPart = true)
    {C_NoText : Addr} (ac_NoText : PySem.W.nsIn K mainGlobals "NoText" = some (some (.ref C_NoText)))
    (ec_NoText : PySem.W.subIn K (.ref C_NoText) (.type "BaseException") = some true)
    (tc_NoText : PySem.W.typeIn K (.ref C_NoText) = some (.type "type"))
    (ic_NoText : PySem.W.isClsIn K C_NoText = true)
    {C_Near : Addr} (ac_Near : PySem.W.nsIn K mainGlobals "Near" = some (some (.ref C_Near)))
    (ec_Near : PySem.W.subIn K (.ref C_Near) (.type "BaseException") = some true)
    (tc_Near : PySem.W.typeIn K (.ref C_Near) = some (.type "type"))
    (ic_Near : PySem.W.isClsIn K C_Near = true)
    {fi_Near : Addr} {nm_Near q_Near : Str} {N_Near : Addr} {bs_Near : List Value} {sn_Near : List Str} {su_Near : List Value} {ab_Near : Bool} {co_Near : Option Bool} {dd_Near : Option Addr} {m0_Near m1_Near m2_Near m3_Near m5_Near : Option Value}
    (xl_Near : K.lookup C_Near = some (excClassObj nm_Near q_Near C_Near N_Near bs_Near [.ref C_WorksError, .type "ValueError", .type "Exception", .type "BaseException", .type "object"] true sn_Near su_Near ab_Near co_Near dd_Near m0_Near m1_Near m2_Near m3_Near m5_Near "ValueError.__new__"))
    (sa_Near : PySem.W.findIn K (.ref C_Near) "__setattr__" = some (some (.builtin "object.__setattr__")))
    (kc_Near : PySem.W.keepIn K (.ref C_Near) = true)
    (ai_Near : PySem.W.findIn K (.ref C_Near) "__init__" = some (some (.ref fi_Near)))
    (ti_Near : PySem.W.typeIn K (.ref fi_Near) = some (.type "function"))
    {odi_Near ani_Near : Option Addr} {sli_Near : Array (Option Value)} {oci_Near kVi_Near dci_Near pmi_Near cdi_Near cti_Near : Value}
    (li_Near : K.lookup fi_Near = some ⟨oci_Near, odi_Near, .func (PySem.W.fnOf "__init__" "Near.__init__" (defArgs s_Near_init) (defBody s_Near_init) (defScope s_Near_init) .none kVi_Near dci_Near pmi_Near ani_Near cdi_Near cti_Near), sli_Near⟩)
    (ci_Near : PySem.W.codeIn K cdi_Near "Near.__init__" = true)
    (ki_Near : PySem.W.keepIn K (.ref fi_Near) = true)
    (no_Near_one : PySem.W.findIn K (.ref C_Near) "one" = some none)
    (no_Near_other : PySem.W.findIn K (.ref C_Near) "other" = some none)
    {C_NoSeam : Addr} (ac_NoSeam : PySem.W.nsIn K mainGlobals "NoSeam" = some (some (.ref C_NoSeam)))
    (ec_NoSeam : PySem.W.subIn K (.ref C_NoSeam) (.type "BaseException") = some true)
    (tc_NoSeam : PySem.W.typeIn K (.ref C_NoSeam) = some (.type "type"))
    (ic_NoSeam : PySem.W.isClsIn K C_NoSeam = true)
    {fi_NoSeam : Addr} {nm_NoSeam q_NoSeam : Str} {N_NoSeam : Addr} {bs_NoSeam : List Value} {sn_NoSeam : List Str} {su_NoSeam : List Value} {ab_NoSeam : Bool} {co_NoSeam : Option Bool} {dd_NoSeam : Option Addr} {m0_NoSeam m1_NoSeam m2_NoSeam m3_NoSeam m5_NoSeam : Option Value}
    (xl_NoSeam : K.lookup C_NoSeam = some (excClassObj nm_NoSeam q_NoSeam C_NoSeam N_NoSeam bs_NoSeam [.ref C_WorksError, .type "ValueError", .type "Exception", .type "BaseException", .type "object"] true sn_NoSeam su_NoSeam ab_NoSeam co_NoSeam dd_NoSeam m0_NoSeam m1_NoSeam m2_NoSeam m3_NoSeam m5_NoSeam "ValueError.__new__"))
    (sa_NoSeam : PySem.W.findIn K (.ref C_NoSeam) "__setattr__" = some (some (.builtin "object.__setattr__")))
    (kc_NoSeam : PySem.W.keepIn K (.ref C_NoSeam) = true)
    (ai_NoSeam : PySem.W.findIn K (.ref C_NoSeam) "__init__" = some (some (.ref fi_NoSeam)))
    (ti_NoSeam : PySem.W.typeIn K (.ref fi_NoSeam) = some (.type "function"))
    {odi_NoSeam ani_NoSeam : Option Addr} {sli_NoSeam : Array (Option Value)} {oci_NoSeam kVi_NoSeam dci_NoSeam pmi_NoSeam cdi_NoSeam cti_NoSeam : Value}
    (li_NoSeam : K.lookup fi_NoSeam = some ⟨oci_NoSeam, odi_NoSeam, .func (PySem.W.fnOf "__init__" "NoSeam.__init__" (defArgs s_NoSeam_init) (defBody s_NoSeam_init) (defScope s_NoSeam_init) .none kVi_NoSeam dci_NoSeam pmi_NoSeam ani_NoSeam cdi_NoSeam cti_NoSeam), sli_NoSeam⟩)
    (ci_NoSeam : PySem.W.codeIn K cdi_NoSeam "NoSeam.__init__" = true)
    (ki_NoSeam : PySem.W.keepIn K (.ref fi_NoSeam) = true)
    (no_NoSeam_start : PySem.W.findIn K (.ref C_NoSeam) "start" = some none)
    (no_NoSeam_over : PySem.W.findIn K (.ref C_NoSeam) "over" = some none)
    {C_NoBarrel : Addr} (ac_NoBarrel : PySem.W.nsIn K mainGlobals "NoBarrel" = some (some (.ref C_NoBarrel)))
    (ec_NoBarrel : PySem.W.subIn K (.ref C_NoBarrel) (.type "BaseException") = some true)
    (tc_NoBarrel : PySem.W.typeIn K (.ref C_NoBarrel) = some (.type "type"))
    (ic_NoBarrel : PySem.W.isClsIn K C_NoBarrel = true)
    {C_NoName : Addr} (ac_NoName : PySem.W.nsIn K mainGlobals "NoName" = some (some (.ref C_NoName)))
    (ec_NoName : PySem.W.subIn K (.ref C_NoName) (.type "BaseException") = some true)
    (tc_NoName : PySem.W.typeIn K (.ref C_NoName) = some (.type "type"))
    (ic_NoName : PySem.W.isClsIn K C_NoName = true)
    {C_NoSense : Addr} (ac_NoSense : PySem.W.nsIn K mainGlobals "NoSense" = some (some (.ref C_NoSense)))
    (ec_NoSense : PySem.W.subIn K (.ref C_NoSense) (.type "BaseException") = some true)
    (tc_NoSense : PySem.W.typeIn K (.ref C_NoSense) = some (.type "type"))
    (ic_NoSense : PySem.W.isClsIn K C_NoSense = true)
    {fi_NoSense : Addr} {nm_NoSense q_NoSense : Str} {N_NoSense : Addr} {bs_NoSense : List Value} {sn_NoSense : List Str} {su_NoSense : List Value} {ab_NoSense : Bool} {co_NoSense : Option Bool} {dd_NoSense : Option Addr} {m0_NoSense m1_NoSense m2_NoSense m3_NoSense m5_NoSense : Option Value}
    (xl_NoSense : K.lookup C_NoSense = some (excClassObj nm_NoSense q_NoSense C_NoSense N_NoSense bs_NoSense [.ref C_WorksError, .type "ValueError", .type "Exception", .type "BaseException", .type "object"] true sn_NoSense su_NoSense ab_NoSense co_NoSense dd_NoSense m0_NoSense m1_NoSense m2_NoSense m3_NoSense m5_NoSense "ValueError.__new__"))
    (sa_NoSense : PySem.W.findIn K (.ref C_NoSense) "__setattr__" = some (some (.builtin "object.__setattr__")))
    (kc_NoSense : PySem.W.keepIn K (.ref C_NoSense) = true)
    (ai_NoSense : PySem.W.findIn K (.ref C_NoSense) "__init__" = some (some (.ref fi_NoSense)))
    (ti_NoSense : PySem.W.typeIn K (.ref fi_NoSense) = some (.type "function"))
    {odi_NoSense ani_NoSense : Option Addr} {sli_NoSense : Array (Option Value)} {oci_NoSense kVi_NoSense dci_NoSense pmi_NoSense cdi_NoSense cti_NoSense : Value}
    (li_NoSense : K.lookup fi_NoSense = some ⟨oci_NoSense, odi_NoSense, .func (PySem.W.fnOf "__init__" "NoSense.__init__" (defArgs s_NoSense_init) (defBody s_NoSense_init) (defScope s_NoSense_init) .none kVi_NoSense dci_NoSense pmi_NoSense ani_NoSense cdi_NoSense cti_NoSense), sli_NoSense⟩)
    (ci_NoSense : PySem.W.codeIn K cdi_NoSense "NoSense.__init__" = true)
    (ki_NoSense : PySem.W.keepIn K (.ref fi_NoSense) = true)
    (no_NoSense_place : PySem.W.findIn K (.ref C_NoSense) "place" = some none)
    {C_NoRow : Addr} (ac_NoRow : PySem.W.nsIn K mainGlobals "NoRow" = some (some (.ref C_NoRow)))
    (ec_NoRow : PySem.W.subIn K (.ref C_NoRow) (.type "BaseException") = some true)
    (tc_NoRow : PySem.W.typeIn K (.ref C_NoRow) = some (.type "type"))
    (ic_NoRow : PySem.W.isClsIn K C_NoRow = true)
    (xi_NoPart : PySem.W.excIn K C_NoPart [.type "ValueError", .type "Exception", .type "BaseException", .type "object"] "ValueError.__new__" = true)
    (kq_NoPart : PySem.W.keepIn K (.ref C_NoPart) = true)
    (h1_NoPart : PySem.W.findIn K (.ref C_NoPart) "__getattribute__" = some (some (.builtin "BaseException.__getattribute__")))
    (h2_NoPart : PySem.W.findIn K (.ref C_NoPart) "__getattr__" = some none)
    (h4_NoPart : PySem.W.hasDictIn K C_NoPart = true)
    (h5_NoPart : PySem.W.findIn K (.ref C_NoPart) "__class__" = some (some (.builtin "object.__class__")))
    (h8_NoPart : PySem.W.mroIn K C_NoPart (.type "object") = some true)
    (h6_ : PySem.W.specialIn K (.builtin "object.__class__") "__get__" = some (some (.builtin "getset_descriptor.__get__")))
    (h7_ : PySem.W.takesIn K (.builtin "object.__class__") = some true)
    (ks_NoPart_Near : PySem.W.subIn K (.ref C_NoPart) (.ref C_Near) = some false)
    (kn_NoPart_Near : C_NoPart ≠ C_Near)
    (ks_NoPart_NoBarrel : PySem.W.subIn K (.ref C_NoPart) (.ref C_NoBarrel) = some false)
    (kn_NoPart_NoBarrel : C_NoPart ≠ C_NoBarrel)
    (ks_NoPart_NoName : PySem.W.subIn K (.ref C_NoPart) (.ref C_NoName) = some false)
    (kn_NoPart_NoName : C_NoPart ≠ C_NoName)
    (ks_NoPart_NoRow : PySem.W.subIn K (.ref C_NoPart) (.ref C_NoRow) = some false)
    (kn_NoPart_NoRow : C_NoPart ≠ C_NoRow)
    (ks_NoPart_NoSeam : PySem.W.subIn K (.ref C_NoPart) (.ref C_NoSeam) = some false)
    (kn_NoPart_NoSeam : C_NoPart ≠ C_NoSeam)
    (ks_NoPart_NoSense : PySem.W.subIn K (.ref C_NoPart) (.ref C_NoSense) = some false)
    (kn_NoPart_NoSense : C_NoPart ≠ C_NoSense)
    (ks_NoPart_NoText : PySem.W.subIn K (.ref C_NoPart) (.ref C_NoText) = some false)
    (kn_NoPart_NoText : C_NoPart ≠ C_NoText)
    (ks_NoPart_ValueError : PySem.W.subIn K (.ref C_NoPart) (.type "ValueError") = some true)
    (ks_NoPart_WorksError : PySem.W.subIn K (.ref C_NoPart) (.ref C_WorksError) = some true)
    (xs_NoPart_NoPart : PySem.W.subIn K (.ref C_NoPart) (.ref C_NoPart) = some true)
    {C_Part : Addr} (ac_Part : PySem.W.nsIn K mainGlobals "Part" = some (some (.ref C_Part)))
    {C_Tone : Addr} (ac_Tone : PySem.W.nsIn K mainGlobals "Tone" = some (some (.ref C_Tone)))
    {C_Rest : Addr} (ac_Rest : PySem.W.nsIn K mainGlobals "Rest" = some (some (.ref C_Rest)))
    {C_Row : Addr} (ac_Row : PySem.W.nsIn K mainGlobals "Row" = some (some (.ref C_Row)))
    {C_Beside : Addr} (ac_Beside : PySem.W.nsIn K mainGlobals "Beside" = some (some (.ref C_Beside)))
    (pg_Tone : PySem.W.plainGet K C_Tone Str.empty = true)
    (ph_Tone : PySem.W.hasDictIn K C_Tone = true)
    (pp_Tone : PySem.W.plainOver K C_Tone = true)
    (ps_Tone : PySem.W.findIn K (.ref C_Tone) "__setattr__" = some (some (.builtin "object.__setattr__")))
    (pn_Tone_inner : PySem.W.findIn K (.ref C_Tone) "inner" = some none)
    (pn_Tone_long : PySem.W.findIn K (.ref C_Tone) "long" = some none)
    (pn_Tone_written : PySem.W.findIn K (.ref C_Tone) "written" = some none)
    (pn_Tone_held : PySem.W.findIn K (.ref C_Tone) "held" = some none)
    (pn_Tone_deep : PySem.W.findIn K (.ref C_Tone) "deep" = some none)
    (pn_Tone_low : PySem.W.findIn K (.ref C_Tone) "low" = some none)
    (pn_Tone_high : PySem.W.findIn K (.ref C_Tone) "high" = some none)
    (pn_Tone_pitch : PySem.W.findIn K (.ref C_Tone) "pitch" = some none)
    (pn_Tone_many : PySem.W.findIn K (.ref C_Tone) "many" = some none)
    (pn_Tone_by : PySem.W.findIn K (.ref C_Tone) "by" = some none)
    (pg_Rest : PySem.W.plainGet K C_Rest Str.empty = true)
    (ph_Rest : PySem.W.hasDictIn K C_Rest = true)
    (pp_Rest : PySem.W.plainOver K C_Rest = true)
    (ps_Rest : PySem.W.findIn K (.ref C_Rest) "__setattr__" = some (some (.builtin "object.__setattr__")))
    (pn_Rest_inner : PySem.W.findIn K (.ref C_Rest) "inner" = some none)
    (pn_Rest_long : PySem.W.findIn K (.ref C_Rest) "long" = some none)
    (pn_Rest_written : PySem.W.findIn K (.ref C_Rest) "written" = some none)
    (pn_Rest_held : PySem.W.findIn K (.ref C_Rest) "held" = some none)
    (pn_Rest_deep : PySem.W.findIn K (.ref C_Rest) "deep" = some none)
    (pn_Rest_low : PySem.W.findIn K (.ref C_Rest) "low" = some none)
    (pn_Rest_high : PySem.W.findIn K (.ref C_Rest) "high" = some none)
    (pn_Rest_pitch : PySem.W.findIn K (.ref C_Rest) "pitch" = some none)
    (pn_Rest_many : PySem.W.findIn K (.ref C_Rest) "many" = some none)
    (pn_Rest_by : PySem.W.findIn K (.ref C_Rest) "by" = some none)
    (pg_Row : PySem.W.plainGet K C_Row Str.empty = true)
    (ph_Row : PySem.W.hasDictIn K C_Row = true)
    (pp_Row : PySem.W.plainOver K C_Row = true)
    (ps_Row : PySem.W.findIn K (.ref C_Row) "__setattr__" = some (some (.builtin "object.__setattr__")))
    (pn_Row_inner : PySem.W.findIn K (.ref C_Row) "inner" = some none)
    (pn_Row_long : PySem.W.findIn K (.ref C_Row) "long" = some none)
    (pn_Row_written : PySem.W.findIn K (.ref C_Row) "written" = some none)
    (pn_Row_held : PySem.W.findIn K (.ref C_Row) "held" = some none)
    (pn_Row_deep : PySem.W.findIn K (.ref C_Row) "deep" = some none)
    (pn_Row_low : PySem.W.findIn K (.ref C_Row) "low" = some none)
    (pn_Row_high : PySem.W.findIn K (.ref C_Row) "high" = some none)
    (pn_Row_pitch : PySem.W.findIn K (.ref C_Row) "pitch" = some none)
    (pn_Row_many : PySem.W.findIn K (.ref C_Row) "many" = some none)
    (pn_Row_by : PySem.W.findIn K (.ref C_Row) "by" = some none)
    (pg_Beside : PySem.W.plainGet K C_Beside Str.empty = true)
    (ph_Beside : PySem.W.hasDictIn K C_Beside = true)
    (pp_Beside : PySem.W.plainOver K C_Beside = true)
    (ps_Beside : PySem.W.findIn K (.ref C_Beside) "__setattr__" = some (some (.builtin "object.__setattr__")))
    (pn_Beside_inner : PySem.W.findIn K (.ref C_Beside) "inner" = some none)
    (pn_Beside_long : PySem.W.findIn K (.ref C_Beside) "long" = some none)
    (pn_Beside_written : PySem.W.findIn K (.ref C_Beside) "written" = some none)
    (pn_Beside_held : PySem.W.findIn K (.ref C_Beside) "held" = some none)
    (pn_Beside_deep : PySem.W.findIn K (.ref C_Beside) "deep" = some none)
    (pn_Beside_low : PySem.W.findIn K (.ref C_Beside) "low" = some none)
    (pn_Beside_high : PySem.W.findIn K (.ref C_Beside) "high" = some none)
    (pn_Beside_pitch : PySem.W.findIn K (.ref C_Beside) "pitch" = some none)
    (pn_Beside_many : PySem.W.findIn K (.ref C_Beside) "many" = some none)
    (pn_Beside_by : PySem.W.findIn K (.ref C_Beside) "by" = some none)
    (pm_Tone_cells : PySem.W.findIn K (.ref C_Tone) "cells" = some (some (.ref f1)))
    (pm_Rest_cells : PySem.W.findIn K (.ref C_Rest) "cells" = some (some (.ref f1)))
    (pm_Row_cells : PySem.W.findIn K (.ref C_Row) "cells" = some (some (.ref f1)))
    (pm_Beside_cells : PySem.W.findIn K (.ref C_Beside) "cells" = some (some (.ref f1)))
    (pf_Part_cells : PySem.W.isFn K (.ref f1) = true)
    (pm_Tone_depth : PySem.W.findIn K (.ref C_Tone) "depth" = some (some (.ref f4)))
    (pm_Rest_depth : PySem.W.findIn K (.ref C_Rest) "depth" = some (some (.ref f4)))
    (pm_Row_depth : PySem.W.findIn K (.ref C_Row) "depth" = some (some (.ref f4)))
    (pm_Beside_depth : PySem.W.findIn K (.ref C_Beside) "depth" = some (some (.ref f4)))
    (pf_Part_depth : PySem.W.isFn K (.ref f4) = true)
    (pm_Tone_highest : PySem.W.findIn K (.ref C_Tone) "highest" = some (some (.ref f6)))
    (pm_Rest_highest : PySem.W.findIn K (.ref C_Rest) "highest" = some (some (.ref f6)))
    (pm_Row_highest : PySem.W.findIn K (.ref C_Row) "highest" = some (some (.ref f6)))
    (pm_Beside_highest : PySem.W.findIn K (.ref C_Beside) "highest" = some (some (.ref f6)))
    (pf_Part_highest : PySem.W.isFn K (.ref f6) = true)
    (pm_Tone_leaves : PySem.W.findIn K (.ref C_Tone) "leaves" = some (some (.ref f2)))
    (pm_Rest_leaves : PySem.W.findIn K (.ref C_Rest) "leaves" = some (some (.ref f2)))
    (pm_Row_leaves : PySem.W.findIn K (.ref C_Row) "leaves" = some (some (.ref f2)))
    (pm_Beside_leaves : PySem.W.findIn K (.ref C_Beside) "leaves" = some (some (.ref f2)))
    (pf_Part_leaves : PySem.W.isFn K (.ref f2) = true)
    (pm_Tone_lowest : PySem.W.findIn K (.ref C_Tone) "lowest" = some (some (.ref f5)))
    (pm_Rest_lowest : PySem.W.findIn K (.ref C_Rest) "lowest" = some (some (.ref f5)))
    (pm_Row_lowest : PySem.W.findIn K (.ref C_Row) "lowest" = some (some (.ref f5)))
    (pm_Beside_lowest : PySem.W.findIn K (.ref C_Beside) "lowest" = some (some (.ref f5)))
    (pf_Part_lowest : PySem.W.isFn K (.ref f5) = true)
    (pm_Tone_size : PySem.W.findIn K (.ref C_Tone) "size" = some (some (.ref f3)))
    (pm_Rest_size : PySem.W.findIn K (.ref C_Rest) "size" = some (some (.ref f3)))
    (pm_Row_size : PySem.W.findIn K (.ref C_Row) "size" = some (some (.ref f3)))
    (pm_Beside_size : PySem.W.findIn K (.ref C_Beside) "size" = some (some (.ref f3)))
    (pf_Part_size : PySem.W.isFn K (.ref f3) = true)
    (pw_Beside : PySem.W.makesIn K C_Beside = true)
    (pq_Beside : PySem.W.keepIn K (.ref C_Beside) = true)
    (pi_Beside : PySem.W.isFn K (.ref f11) = true)
    (pw_Rest : PySem.W.makesIn K C_Rest = true)
    (pq_Rest : PySem.W.keepIn K (.ref C_Rest) = true)
    (pi_Rest : PySem.W.isFn K (.ref f9) = true)
    (pw_Row : PySem.W.makesIn K C_Row = true)
    (pq_Row : PySem.W.keepIn K (.ref C_Row) = true)
    (pi_Row : PySem.W.isFn K (.ref f10) = true)
    (pw_Tone : PySem.W.makesIn K C_Tone = true)
    (pq_Tone : PySem.W.keepIn K (.ref C_Tone) = true)
    (pi_Tone : PySem.W.isFn K (.ref f8) = true)
    (pf_Tone_words : PySem.W.isFn K (.ref f12) = true)
    (pf_Rest_words : PySem.W.isFn K (.ref f13) = true)
    (pf_Row_words : PySem.W.isFn K (.ref f14) = true)
    (pf_Beside_words : PySem.W.isFn K (.ref f15) = true)
    (bs_ : PySem.W.specialIn K (.ref C_Part) "__getattribute__" = some (some (.builtin "type.__getattribute__")))
    (br_ : PySem.W.readsIn K C_Part (.type "type") = true)
    (bf_ : PySem.W.findCls K (.ref C_Part) (.type "type") "__init__" = some (.val (.ref f7)))
    (a0 : PySem.W.nsIn K mainGlobals "look_at" = some (some (.ref f0)))
    (l0 : K.lookup f0 = some ⟨oc0, od0, .func (PySem.W.fnOf "look_at" "look_at" (defArgs s_look_at) (defBody s_look_at) (defScope s_look_at) .none kV0 dc0 pm0 an0 cd0 ct0), sl0⟩) (c0 : PySem.W.codeIn K cd0 "look_at" = true) (k0 : PySem.W.keepIn K (.ref f0) = true)
    (a1 : PySem.W.findIn K (.ref C_Part) "cells" = some (some (.ref f1)))
    (l1 : K.lookup f1 = some ⟨oc1, od1, .func (PySem.W.fnOf "cells" "Part.cells" (defArgs s_Part_cells) (defBody s_Part_cells) (defScope s_Part_cells) .none kV1 dc1 pm1 an1 cd1 ct1), sl1⟩) (c1 : PySem.W.codeIn K cd1 "Part.cells" = true) (k1 : PySem.W.keepIn K (.ref f1) = true)
    (a2 : PySem.W.findIn K (.ref C_Part) "leaves" = some (some (.ref f2)))
    (l2 : K.lookup f2 = some ⟨oc2, od2, .func (PySem.W.fnOf "leaves" "Part.leaves" (defArgs s_Part_leaves) (defBody s_Part_leaves) (defScope s_Part_leaves) .none kV2 dc2 pm2 an2 cd2 ct2), sl2⟩) (c2 : PySem.W.codeIn K cd2 "Part.leaves" = true) (k2 : PySem.W.keepIn K (.ref f2) = true)
    (a3 : PySem.W.findIn K (.ref C_Part) "size" = some (some (.ref f3)))
    (l3 : K.lookup f3 = some ⟨oc3, od3, .func (PySem.W.fnOf "size" "Part.size" (defArgs s_Part_size) (defBody s_Part_size) (defScope s_Part_size) .none kV3 dc3 pm3 an3 cd3 ct3), sl3⟩) (c3 : PySem.W.codeIn K cd3 "Part.size" = true) (k3 : PySem.W.keepIn K (.ref f3) = true)
    (a4 : PySem.W.findIn K (.ref C_Part) "depth" = some (some (.ref f4)))
    (l4 : K.lookup f4 = some ⟨oc4, od4, .func (PySem.W.fnOf "depth" "Part.depth" (defArgs s_Part_depth) (defBody s_Part_depth) (defScope s_Part_depth) .none kV4 dc4 pm4 an4 cd4 ct4), sl4⟩) (c4 : PySem.W.codeIn K cd4 "Part.depth" = true) (k4 : PySem.W.keepIn K (.ref f4) = true)
    (a5 : PySem.W.findIn K (.ref C_Part) "lowest" = some (some (.ref f5)))
    (l5 : K.lookup f5 = some ⟨oc5, od5, .func (PySem.W.fnOf "lowest" "Part.lowest" (defArgs s_Part_lowest) (defBody s_Part_lowest) (defScope s_Part_lowest) .none kV5 dc5 pm5 an5 cd5 ct5), sl5⟩) (c5 : PySem.W.codeIn K cd5 "Part.lowest" = true) (k5 : PySem.W.keepIn K (.ref f5) = true)
    (a6 : PySem.W.findIn K (.ref C_Part) "highest" = some (some (.ref f6)))
    (l6 : K.lookup f6 = some ⟨oc6, od6, .func (PySem.W.fnOf "highest" "Part.highest" (defArgs s_Part_highest) (defBody s_Part_highest) (defScope s_Part_highest) .none kV6 dc6 pm6 an6 cd6 ct6), sl6⟩) (c6 : PySem.W.codeIn K cd6 "Part.highest" = true) (k6 : PySem.W.keepIn K (.ref f6) = true)
    (a7 : PySem.W.findIn K (.ref C_Part) "__init__" = some (some (.ref f7)))
    (l7 : K.lookup f7 = some ⟨oc7, od7, .func (PySem.W.fnOf "__init__" "Part.__init__" (defArgs s_Part_init) (defBody s_Part_init) (defScope s_Part_init) .none kV7 dc7 pm7 an7 cd7 ct7), sl7⟩) (c7 : PySem.W.codeIn K cd7 "Part.__init__" = true) (k7 : PySem.W.keepIn K (.ref f7) = true)
    (a8 : PySem.W.findIn K (.ref C_Tone) "__init__" = some (some (.ref f8)))
    (l8 : K.lookup f8 = some ⟨oc8, od8, .func (PySem.W.fnOf "__init__" "Tone.__init__" (defArgs s_Tone_init) (defBody s_Tone_init) (defScope s_Tone_init) .none kV8 dc8 pm8 an8 cd8 ct8), sl8⟩) (c8 : PySem.W.codeIn K cd8 "Tone.__init__" = true) (k8 : PySem.W.keepIn K (.ref f8) = true)
    (a9 : PySem.W.findIn K (.ref C_Rest) "__init__" = some (some (.ref f9)))
    (l9 : K.lookup f9 = some ⟨oc9, od9, .func (PySem.W.fnOf "__init__" "Rest.__init__" (defArgs s_Rest_init) (defBody s_Rest_init) (defScope s_Rest_init) .none kV9 dc9 pm9 an9 cd9 ct9), sl9⟩) (c9 : PySem.W.codeIn K cd9 "Rest.__init__" = true) (k9 : PySem.W.keepIn K (.ref f9) = true)
    (a10 : PySem.W.findIn K (.ref C_Row) "__init__" = some (some (.ref f10)))
    (l10 : K.lookup f10 = some ⟨oc10, od10, .func (PySem.W.fnOf "__init__" "Row.__init__" (defArgs s_Row_init) (defBody s_Row_init) (defScope s_Row_init) .none kV10 dc10 pm10 an10 cd10 ct10), sl10⟩) (c10 : PySem.W.codeIn K cd10 "Row.__init__" = true) (k10 : PySem.W.keepIn K (.ref f10) = true)
    (a11 : PySem.W.findIn K (.ref C_Beside) "__init__" = some (some (.ref f11)))
    (l11 : K.lookup f11 = some ⟨oc11, od11, .func (PySem.W.fnOf "__init__" "Beside.__init__" (defArgs s_Beside_init) (defBody s_Beside_init) (defScope s_Beside_init) .none kV11 dc11 pm11 an11 cd11 ct11), sl11⟩) (c11 : PySem.W.codeIn K cd11 "Beside.__init__" = true) (k11 : PySem.W.keepIn K (.ref f11) = true)
    (a12 : PySem.W.findIn K (.ref C_Tone) "words" = some (some (.ref f12)))
    (l12 : K.lookup f12 = some ⟨oc12, od12, .func (PySem.W.fnOf "words" "Tone.words" (defArgs s_Tone_words) (defBody s_Tone_words) (defScope s_Tone_words) .none kV12 dc12 pm12 an12 cd12 ct12), sl12⟩) (c12 : PySem.W.codeIn K cd12 "Tone.words" = true) (k12 : PySem.W.keepIn K (.ref f12) = true)
    (a13 : PySem.W.findIn K (.ref C_Rest) "words" = some (some (.ref f13)))
    (l13 : K.lookup f13 = some ⟨oc13, od13, .func (PySem.W.fnOf "words" "Rest.words" (defArgs s_Rest_words) (defBody s_Rest_words) (defScope s_Rest_words) .none kV13 dc13 pm13 an13 cd13 ct13), sl13⟩) (c13 : PySem.W.codeIn K cd13 "Rest.words" = true) (k13 : PySem.W.keepIn K (.ref f13) = true)
    (a14 : PySem.W.findIn K (.ref C_Row) "words" = some (some (.ref f14)))
    (l14 : K.lookup f14 = some ⟨oc14, od14, .func (PySem.W.fnOf "words" "Row.words" (defArgs s_Row_words) (defBody s_Row_words) (defScope s_Row_words) .none kV14 dc14 pm14 an14 cd14 ct14), sl14⟩) (c14 : PySem.W.codeIn K cd14 "Row.words" = true) (k14 : PySem.W.keepIn K (.ref f14) = true)
    (a15 : PySem.W.findIn K (.ref C_Beside) "words" = some (some (.ref f15)))
    (l15 : K.lookup f15 = some ⟨oc15, od15, .func (PySem.W.fnOf "words" "Beside.words" (defArgs s_Beside_words) (defBody s_Beside_words) (defScope s_Beside_words) .none kV15 dc15 pm15 an15 cd15 ct15), sl15⟩) (c15 : PySem.W.codeIn K cd15 "Beside.words" = true) (k15 : PySem.W.keepIn K (.ref f15) = true)
    (a16 : PySem.W.nsIn K mainGlobals "_law_cell_at" = some (some (.ref f16)))
    (l16 : K.lookup f16 = some ⟨oc16, od16, .func (PySem.W.fnOf "_law_cell_at" "_law_cell_at" (defArgs s_cell_at) (defBody s_cell_at) (defScope s_cell_at) .none kV16 dc16 pm16 an16 cd16 ct16), sl16⟩) (c16 : PySem.W.codeIn K cd16 "_law_cell_at" = true) (k16 : PySem.W.keepIn K (.ref f16) = true)
    (a17 : PySem.W.nsIn K mainGlobals "_law_whole" = some (some (.ref f17)))
    (l17 : K.lookup f17 = some ⟨oc17, od17, .func (PySem.W.fnOf "_law_whole" "_law_whole" (defArgs s_whole) (defBody s_whole) (defScope s_whole) .none kV17 dc17 pm17 an17 cd17 ct17), sl17⟩) (c17 : PySem.W.codeIn K cd17 "_law_whole" = true) (k17 : PySem.W.keepIn K (.ref f17) = true)
    (a18 : PySem.W.nsIn K mainGlobals "_law_kinds" = some (some (.ref f18)))
    (l18 : K.lookup f18 = some ⟨oc18, od18, .func (PySem.W.fnOf "_law_kinds" "_law_kinds" (defArgs s_kinds) (defBody s_kinds) (defScope s_kinds) .none kV18 dc18 pm18 an18 cd18 ct18), sl18⟩) (c18 : PySem.W.codeIn K cd18 "_law_kinds" = true) (k18 : PySem.W.keepIn K (.ref f18) = true)
    (a19 : PySem.W.nsIn K mainGlobals "_law_are" = some (some (.ref f19)))
    (l19 : K.lookup f19 = some ⟨oc19, od19, .func (PySem.W.fnOf "_law_are" "_law_are" (defArgs s_are) (defBody s_are) (defScope s_are) .none kV19 dc19 pm19 an19 cd19 ct19), sl19⟩) (c19 : PySem.W.codeIn K cd19 "_law_are" = true) (k19 : PySem.W.keepIn K (.ref f19) = true)
    (a20 : PySem.W.nsIn K mainGlobals "_law_leaf" = some (some (.ref f20)))
    (l20 : K.lookup f20 = some ⟨oc20, od20, .func (PySem.W.fnOf "_law_leaf" "_law_leaf" (defArgs s_leaf) (defBody s_leaf) (defScope s_leaf) .none kV20 dc20 pm20 an20 cd20 ct20), sl20⟩) (c20 : PySem.W.codeIn K cd20 "_law_leaf" = true) (k20 : PySem.W.keepIn K (.ref f20) = true)
    (a21 : PySem.W.nsIn K mainGlobals "_law_made_leaf" = some (some (.ref f21)))
    (l21 : K.lookup f21 = some ⟨oc21, od21, .func (PySem.W.fnOf "_law_made_leaf" "_law_made_leaf" (defArgs s_made_leaf) (defBody s_made_leaf) (defScope s_made_leaf) .none kV21 dc21 pm21 an21 cd21 ct21), sl21⟩) (c21 : PySem.W.codeIn K cd21 "_law_made_leaf" = true) (k21 : PySem.W.keepIn K (.ref f21) = true)
    (a22 : PySem.W.nsIn K mainGlobals "_law_ends" = some (some (.ref f22)))
    (l22 : K.lookup f22 = some ⟨oc22, od22, .func (PySem.W.fnOf "_law_ends" "_law_ends" (defArgs s_ends) (defBody s_ends) (defScope s_ends) .none kV22 dc22 pm22 an22 cd22 ct22), sl22⟩) (c22 : PySem.W.codeIn K cd22 "_law_ends" = true) (k22 : PySem.W.keepIn K (.ref f22) = true)
    (a23 : PySem.W.nsIn K mainGlobals "_law_row" = some (some (.ref f23)))
    (l23 : K.lookup f23 = some ⟨oc23, od23, .func (PySem.W.fnOf "_law_row" "_law_row" (defArgs s_row) (defBody s_row) (defScope s_row) .none kV23 dc23 pm23 an23 cd23 ct23), sl23⟩) (c23 : PySem.W.codeIn K cd23 "_law_row" = true) (k23 : PySem.W.keepIn K (.ref f23) = true)
    (a24 : PySem.W.nsIn K mainGlobals "_law_beside" = some (some (.ref f24)))
    (l24 : K.lookup f24 = some ⟨oc24, od24, .func (PySem.W.fnOf "_law_beside" "_law_beside" (defArgs s_beside) (defBody s_beside) (defScope s_beside) .none kV24 dc24 pm24 an24 cd24 ct24), sl24⟩) (c24 : PySem.W.codeIn K cd24 "_law_beside" = true) (k24 : PySem.W.keepIn K (.ref f24) = true)
    (a25 : PySem.W.nsIn K mainGlobals "_law_good" = some (some (.ref f25)))
    (l25 : K.lookup f25 = some ⟨oc25, od25, .func (PySem.W.fnOf "_law_good" "_law_good" (defArgs s_good) (defBody s_good) (defScope s_good) .none kV25 dc25 pm25 an25 cd25 ct25), sl25⟩) (c25 : PySem.W.codeIn K cd25 "_law_good" = true) (k25 : PySem.W.keepIn K (.ref f25) = true)
    (a26 : PySem.W.nsIn K mainGlobals "_law_refused" = some (some (.ref f26)))
    (l26 : K.lookup f26 = some ⟨oc26, od26, .func (PySem.W.fnOf "_law_refused" "_law_refused" (defArgs s_refused) (defBody s_refused) (defScope s_refused) .none kV26 dc26 pm26 an26 cd26 ct26), sl26⟩) (c26 : PySem.W.codeIn K cd26 "_law_refused" = true) (k26 : PySem.W.keepIn K (.ref f26) = true)
    (a27 : PySem.W.nsIn K mainGlobals "law" = some (some (.ref f27)))
    (l27 : K.lookup f27 = some ⟨oc27, od27, .func (PySem.W.fnOf "law" "law" (defArgs s_law) (defBody s_law) (defScope s_law) .none kV27 dc27 pm27 an27 cd27 ct27), sl27⟩) (c27 : PySem.W.codeIn K cd27 "law" = true) (k27 : PySem.W.keepIn K (.ref f27) = true)
    (z_ValueError : PySem.W.nsIn K mainGlobals "ValueError" = some none)
    (z_bool : PySem.W.nsIn K mainGlobals "bool" = some none)
    (z_int : PySem.W.nsIn K mainGlobals "int" = some none)
    (z_isinstance : PySem.W.nsIn K mainGlobals "isinstance" = some none)
    (z_len : PySem.W.nsIn K mainGlobals "len" = some none)
    (z_list : PySem.W.nsIn K mainGlobals "list" = some none)
    (z_max : PySem.W.nsIn K mainGlobals "max" = some none)
    (z_min : PySem.W.nsIn K mainGlobals "min" = some none)
    (z_range : PySem.W.nsIn K mainGlobals "range" = some none)
    (z_str : PySem.W.nsIn K mainGlobals "str" = some none)
    (z_sum : PySem.W.nsIn K mainGlobals "sum" = some none)
    {t_MOST_CELLS : Tok} (y_MOST_CELLS : PySem.W.nsIn K mainGlobals "MOST_CELLS" = some (some (.int 2000 t_MOST_CELLS)))
    {t_MOST_LEAVES : Tok} (y_MOST_LEAVES : PySem.W.nsIn K mainGlobals "MOST_LEAVES" = some (some (.int 900 t_MOST_LEAVES)))
    {t_MOST_SIZE : Tok} (y_MOST_SIZE : PySem.W.nsIn K mainGlobals "MOST_SIZE" = some (some (.int 1500 t_MOST_SIZE)))
    {t_MOST_DEPTH : Tok} (y_MOST_DEPTH : PySem.W.nsIn K mainGlobals "MOST_DEPTH" = some (some (.int 12 t_MOST_DEPTH)))
    {t_HIGHEST : Tok} (y_HIGHEST : PySem.W.nsIn K mainGlobals "HIGHEST" = some (some (.int 127 t_HIGHEST)))
    : ∃ fd : FuncData, (∀ (s : Shared) (v : Value), BindsTo s fd ⟨[v], []⟩ [("_law_script", v)]) ∧ ∀ base : Heap, K.In base → base.Ns mainGlobals mg → FnOk l.prog w K mg base CX0 17 fa fd ["_law_script"] (spTrue K) := by
  have e := hfa.symm.trans (PySem.W.mg_of X G a27)
  cases e
  have F0 := fun_mk (st := s_look_at) l0 c0 k0
  have b0 := F0.binds (ps := ["number", "least", "greatest"]) fun _ _ _ _ _ _ us hl => match us, hl with | [_, _, _], _ => rfl
  have F1 := fun_mk (st := s_Part_cells) l1 c1 k1
  have b1 := F1.binds (ps := ["self"]) fun _ _ _ _ _ _ us hl => match us, hl with | [_], _ => rfl
  have F2 := fun_mk (st := s_Part_leaves) l2 c2 k2
  have b2 := F2.binds (ps := ["self"]) fun _ _ _ _ _ _ us hl => match us, hl with | [_], _ => rfl
  have F3 := fun_mk (st := s_Part_size) l3 c3 k3
  have b3 := F3.binds (ps := ["self"]) fun _ _ _ _ _ _ us hl => match us, hl with | [_], _ => rfl
  have F4 := fun_mk (st := s_Part_depth) l4 c4 k4
  have b4 := F4.binds (ps := ["self"]) fun _ _ _ _ _ _ us hl => match us, hl with | [_], _ => rfl
  have F5 := fun_mk (st := s_Part_lowest) l5 c5 k5
  have b5 := F5.binds (ps := ["self"]) fun _ _ _ _ _ _ us hl => match us, hl with | [_], _ => rfl
  have F6 := fun_mk (st := s_Part_highest) l6 c6 k6
  have b6 := F6.binds (ps := ["self"]) fun _ _ _ _ _ _ us hl => match us, hl with | [_], _ => rfl
  have F7 := fun_mk (st := s_Part_init) l7 c7 k7
  have b7 := F7.binds (ps := ["self", "inner", "long", "written"]) fun _ _ _ _ _ _ us hl => match us, hl with | [_, _, _, _], _ => rfl
  have F8 := fun_mk (st := s_Tone_init) l8 c8 k8
  have b8 := F8.binds (ps := ["self", "pitch", "cells"]) fun _ _ _ _ _ _ us hl => match us, hl with | [_, _, _], _ => rfl
  have F9 := fun_mk (st := s_Rest_init) l9 c9 k9
  have b9 := F9.binds (ps := ["self", "cells"]) fun _ _ _ _ _ _ us hl => match us, hl with | [_, _], _ => rfl
  have F10 := fun_mk (st := s_Row_init) l10 c10 k10
  have b10 := F10.binds (ps := ["self", "parts"]) fun _ _ _ _ _ _ us hl => match us, hl with | [_, _], _ => rfl
  have F11 := fun_mk (st := s_Beside_init) l11 c11 k11
  have b11 := F11.binds (ps := ["self", "parts"]) fun _ _ _ _ _ _ us hl => match us, hl with | [_, _], _ => rfl
  have F12 := fun_mk (st := s_Tone_words) l12 c12 k12
  have b12 := F12.binds (ps := ["self"]) fun _ _ _ _ _ _ us hl => match us, hl with | [_], _ => rfl
  have F13 := fun_mk (st := s_Rest_words) l13 c13 k13
  have b13 := F13.binds (ps := ["self"]) fun _ _ _ _ _ _ us hl => match us, hl with | [_], _ => rfl
  have F14 := fun_mk (st := s_Row_words) l14 c14 k14
  have b14 := F14.binds (ps := ["self"]) fun _ _ _ _ _ _ us hl => match us, hl with | [_], _ => rfl
  have F15 := fun_mk (st := s_Beside_words) l15 c15 k15
  have b15 := F15.binds (ps := ["self"]) fun _ _ _ _ _ _ us hl => match us, hl with | [_], _ => rfl
  have F16 := fun_mk (st := s_cell_at) l16 c16 k16
  have b16 := F16.binds (ps := ["_law_script", "_law_k"]) fun _ _ _ _ _ _ us hl => match us, hl with | [_, _], _ => rfl
  have F17 := fun_mk (st := s_whole) l17 c17 k17
  have b17 := F17.binds (ps := ["_law_found"]) fun _ _ _ _ _ _ us hl => match us, hl with | [_], _ => rfl
  have F18 := fun_mk (st := s_kinds) l18 c18 k18
  have b18 := F18.binds (ps := ["_law_e"]) fun _ _ _ _ _ _ us hl => match us, hl with | [_], _ => rfl
  have F19 := fun_mk (st := s_are) l19 c19 k19
  have b19 := F19.binds (ps := ["_law_part", "_law_due"]) fun _ _ _ _ _ _ us hl => match us, hl with | [_, _], _ => rfl
  have F20 := fun_mk (st := s_leaf) l20 c20 k20
  have b20 := F20.binds (ps := ["_law_cell"]) fun _ _ _ _ _ _ us hl => match us, hl with | [_], _ => rfl
  have F21 := fun_mk (st := s_made_leaf) l21 c21 k21
  have b21 := F21.binds (ps := ["_law_leaf_here"]) fun _ _ _ _ _ _ us hl => match us, hl with | [_], _ => rfl
  have F22 := fun_mk (st := s_ends) l22 c22 k22
  have b22 := F22.binds (ps := ["_law_some"]) fun _ _ _ _ _ _ us hl => match us, hl with | [_], _ => rfl
  have F23 := fun_mk (st := s_row) l23 c23 k23
  have b23 := F23.binds (ps := ["_law_some"]) fun _ _ _ _ _ _ us hl => match us, hl with | [_], _ => rfl
  have F24 := fun_mk (st := s_beside) l24 c24 k24
  have b24 := F24.binds (ps := ["_law_some"]) fun _ _ _ _ _ _ us hl => match us, hl with | [_], _ => rfl
  have F25 := fun_mk (st := s_good) l25 c25 k25
  have b25 := F25.binds (ps := ["_law_parts", "_law_dues"]) fun _ _ _ _ _ _ us hl => match us, hl with | [_, _], _ => rfl
  have F26 := fun_mk (st := s_refused) l26 c26 k26
  have b26 := F26.binds (ps := ["_law_parts"]) fun _ _ _ _ _ _ us hl => match us, hl with | [_], _ => rfl
  have F27 := fun_mk (st := s_law) l27 c27 k27
  have b27 := F27.binds (ps := ["_law_script"]) fun _ _ _ _ _ _ us hl => match us, hl with | [_], _ => rfl
  have T : Txt K mg ⟨C_WorksError, C_NoPart, C_NoText, C_Near, _, _, C_NoSeam, _, _, C_NoBarrel, C_NoName, C_NoSense, _, _, C_NoRow, C_Part, C_Tone, C_Rest, C_Row, C_Beside, _, _, _, _, _, _, _, _, _, _, _, _, _, _, _, _, _, _, _, _, _, _, _, _, _, _, _, _, _, _, _, _, _, _, _, _, _, _, _, _, _, _, _, _, _, _, _, _, _, _, _, _, _, _, _, _⟩ := ⟨F0, PySem.W.mg_of X G a0, b0, F1, b1, F2, b2, F3, b3, F4, b4, F5, b5, F6, b6, F7, b7, F8, b8, F9, b9, F10, b10, F11, b11, F12, b12, F13, b13, F14, b14, F15, b15, F16, PySem.W.mg_of X G a16, b16, F17, PySem.W.mg_of X G a17, b17, F18, PySem.W.mg_of X G a18, b18, F19, PySem.W.mg_of X G a19, b19, F20, PySem.W.mg_of X G a20, b20, F21, PySem.W.mg_of X G a21, b21, F22, PySem.W.mg_of X G a22, b22, F23, PySem.W.mg_of X G a23, b23, F24, PySem.W.mg_of X G a24, b24, F25, PySem.W.mg_of X G a25, b25, F26, PySem.W.mg_of X G a26, b26, F27, PySem.W.mg_of X G a27, b27, PySem.W.mg_of X G ac_WorksError, ⟨sp_WorksError, rd_WorksError, fd_WorksError⟩, PySem.W.mg_of X G ac_NoPart, PySem.W.mg_of X G ac_NoText, PySem.W.mg_of X G ac_Near, ⟨⟨_, _, _, _, _, _, _, _, _, _, _, _, _, _, _, xl_Near, rfl⟩, sa_Near, ec_Near, tc_Near, kc_Near⟩, ai_Near, ti_Near, (fun_mk (st := s_Near_init) li_Near ci_Near ki_Near), ((fun_mk (st := s_Near_init) li_Near ci_Near ki_Near).binds (ps := ["self", "one", "other"]) fun _ _ _ _ _ _ us hl => match us, hl with | [_, _, _], _ => rfl), no_Near_one, no_Near_other, PySem.W.mg_of X G ac_NoSeam, ⟨⟨_, _, _, _, _, _, _, _, _, _, _, _, _, _, _, xl_NoSeam, rfl⟩, sa_NoSeam, ec_NoSeam, tc_NoSeam, kc_NoSeam⟩, ai_NoSeam, ti_NoSeam, (fun_mk (st := s_NoSeam_init) li_NoSeam ci_NoSeam ki_NoSeam), ((fun_mk (st := s_NoSeam_init) li_NoSeam ci_NoSeam ki_NoSeam).binds (ps := ["self", "start", "over"]) fun _ _ _ _ _ _ us hl => match us, hl with | [_, _, _], _ => rfl), no_NoSeam_start, no_NoSeam_over, PySem.W.mg_of X G ac_NoBarrel, PySem.W.mg_of X G ac_NoName, PySem.W.mg_of X G ac_NoSense, ⟨⟨_, _, _, _, _, _, _, _, _, _, _, _, _, _, _, xl_NoSense, rfl⟩, sa_NoSense, ec_NoSense, tc_NoSense, kc_NoSense⟩, ai_NoSense, ti_NoSense, (fun_mk (st := s_NoSense_init) li_NoSense ci_NoSense ki_NoSense), ((fun_mk (st := s_NoSense_init) li_NoSense ci_NoSense ki_NoSense).binds (ps := ["self", "place"]) fun _ _ _ _ _ _ us hl => match us, hl with | [_, _], _ => rfl), no_NoSense_place, PySem.W.mg_of X G ac_NoRow, xi_NoPart, kq_NoPart, ec_NoPart, tc_NoPart, ⟨h1_NoPart, h2_NoPart, ec_NoPart, h4_NoPart, h5_NoPart, h6_, h7_, h8_NoPart⟩, (kit_own ic_Near tc_Near ks_NoPart_Near (fun _ => kn_NoPart_Near)), (kit_own ic_NoBarrel tc_NoBarrel ks_NoPart_NoBarrel (fun _ => kn_NoPart_NoBarrel)), (kit_own ic_NoName tc_NoName ks_NoPart_NoName (fun _ => kn_NoPart_NoName)), (kit_own ic_NoRow tc_NoRow ks_NoPart_NoRow (fun _ => kn_NoPart_NoRow)), (kit_own ic_NoSeam tc_NoSeam ks_NoPart_NoSeam (fun _ => kn_NoPart_NoSeam)), (kit_own ic_NoSense tc_NoSense ks_NoPart_NoSense (fun _ => kn_NoPart_NoSense)), (kit_own ic_NoText tc_NoText ks_NoPart_NoText (fun _ => kn_NoPart_NoText)), (kit_typ (by decide +kernel) ks_NoPart_ValueError), (kit_own ic_WorksError tc_WorksError ks_NoPart_WorksError (fun z => Bool.noConfusion z)), exm_own ec_NoPart ic_NoPart tc_NoPart xs_NoPart_NoPart, PySem.W.mg_of X G ac_Part, PySem.W.mg_of X G ac_Tone, PySem.W.mg_of X G ac_Rest, PySem.W.mg_of X G ac_Row, PySem.W.mg_of X G ac_Beside, ⟨(fun k => match k with | .tone => ⟨pg_Tone, ph_Tone, pp_Tone, ps_Tone⟩ | .rest => ⟨pg_Rest, ph_Rest, pp_Rest, ps_Rest⟩ | .row => ⟨pg_Row, ph_Row, pp_Row, ps_Row⟩ | .rep => ⟨pg_Tone, ph_Tone, pp_Tone, ps_Tone⟩ | .shift => ⟨pg_Tone, ph_Tone, pp_Tone, ps_Tone⟩ | .stretch => ⟨pg_Tone, ph_Tone, pp_Tone, ps_Tone⟩ | .beside => ⟨pg_Beside, ph_Beside, pp_Beside, ps_Beside⟩), fun k f hf => by (cases k <;> (simp only [partNames, List.mem_cons, List.mem_nil_iff, or_false] at hf; rcases hf with rfl | rfl | rfl | rfl | rfl | rfl | rfl | rfl | rfl | rfl <;> assumption))⟩, (fun k => match k with | .tone => ⟨pm_Tone_cells, pf_Part_cells, k1⟩ | .rest => ⟨pm_Rest_cells, pf_Part_cells, k1⟩ | .row => ⟨pm_Row_cells, pf_Part_cells, k1⟩ | .rep => ⟨pm_Tone_cells, pf_Part_cells, k1⟩ | .shift => ⟨pm_Tone_cells, pf_Part_cells, k1⟩ | .stretch => ⟨pm_Tone_cells, pf_Part_cells, k1⟩ | .beside => ⟨pm_Beside_cells, pf_Part_cells, k1⟩), (fun k => match k with | .tone => ⟨pm_Tone_depth, pf_Part_depth, k4⟩ | .rest => ⟨pm_Rest_depth, pf_Part_depth, k4⟩ | .row => ⟨pm_Row_depth, pf_Part_depth, k4⟩ | .rep => ⟨pm_Tone_depth, pf_Part_depth, k4⟩ | .shift => ⟨pm_Tone_depth, pf_Part_depth, k4⟩ | .stretch => ⟨pm_Tone_depth, pf_Part_depth, k4⟩ | .beside => ⟨pm_Beside_depth, pf_Part_depth, k4⟩), (fun k => match k with | .tone => ⟨pm_Tone_highest, pf_Part_highest, k6⟩ | .rest => ⟨pm_Rest_highest, pf_Part_highest, k6⟩ | .row => ⟨pm_Row_highest, pf_Part_highest, k6⟩ | .rep => ⟨pm_Tone_highest, pf_Part_highest, k6⟩ | .shift => ⟨pm_Tone_highest, pf_Part_highest, k6⟩ | .stretch => ⟨pm_Tone_highest, pf_Part_highest, k6⟩ | .beside => ⟨pm_Beside_highest, pf_Part_highest, k6⟩), (fun k => match k with | .tone => ⟨pm_Tone_leaves, pf_Part_leaves, k2⟩ | .rest => ⟨pm_Rest_leaves, pf_Part_leaves, k2⟩ | .row => ⟨pm_Row_leaves, pf_Part_leaves, k2⟩ | .rep => ⟨pm_Tone_leaves, pf_Part_leaves, k2⟩ | .shift => ⟨pm_Tone_leaves, pf_Part_leaves, k2⟩ | .stretch => ⟨pm_Tone_leaves, pf_Part_leaves, k2⟩ | .beside => ⟨pm_Beside_leaves, pf_Part_leaves, k2⟩), (fun k => match k with | .tone => ⟨pm_Tone_lowest, pf_Part_lowest, k5⟩ | .rest => ⟨pm_Rest_lowest, pf_Part_lowest, k5⟩ | .row => ⟨pm_Row_lowest, pf_Part_lowest, k5⟩ | .rep => ⟨pm_Tone_lowest, pf_Part_lowest, k5⟩ | .shift => ⟨pm_Tone_lowest, pf_Part_lowest, k5⟩ | .stretch => ⟨pm_Tone_lowest, pf_Part_lowest, k5⟩ | .beside => ⟨pm_Beside_lowest, pf_Part_lowest, k5⟩), (fun k => match k with | .tone => ⟨pm_Tone_size, pf_Part_size, k3⟩ | .rest => ⟨pm_Rest_size, pf_Part_size, k3⟩ | .row => ⟨pm_Row_size, pf_Part_size, k3⟩ | .rep => ⟨pm_Tone_size, pf_Part_size, k3⟩ | .shift => ⟨pm_Tone_size, pf_Part_size, k3⟩ | .stretch => ⟨pm_Tone_size, pf_Part_size, k3⟩ | .beside => ⟨pm_Beside_size, pf_Part_size, k3⟩), ⟨pw_Beside, a11, pi_Beside, pq_Beside⟩, ⟨pw_Rest, a9, pi_Rest, pq_Rest⟩, ⟨pw_Row, a10, pi_Row, pq_Row⟩, ⟨pw_Tone, a8, pi_Tone, pq_Tone⟩, (fun k => match k with | .tone => ⟨a12, pf_Tone_words, k12⟩ | .rest => ⟨a13, pf_Rest_words, k13⟩ | .row => ⟨a14, pf_Row_words, k14⟩ | .rep => ⟨a12, pf_Tone_words, k12⟩ | .shift => ⟨a12, pf_Tone_words, k12⟩ | .stretch => ⟨a12, pf_Tone_words, k12⟩ | .beside => ⟨a15, pf_Beside_words, k15⟩), (fun k => match k with | .tone => b12 | .rest => b13 | .row => b14 | .rep => b12 | .shift => b12 | .stretch => b12 | .beside => b15), ⟨bs_, br_, bf_, k7⟩, PySem.W.mg_none_of X G z_ValueError, PySem.W.mg_none_of X G z_bool, PySem.W.mg_none_of X G z_int, PySem.W.mg_none_of X G z_isinstance, PySem.W.mg_none_of X G z_len, PySem.W.mg_none_of X G z_list, PySem.W.mg_none_of X G z_max, PySem.W.mg_none_of X G z_min, PySem.W.mg_none_of X G z_range, PySem.W.mg_none_of X G z_str, PySem.W.mg_none_of X G z_sum, ⟨_, PySem.W.mg_of X G y_MOST_CELLS⟩, ⟨_, PySem.W.mg_of X G y_MOST_LEAVES⟩, ⟨_, PySem.W.mg_of X G y_MOST_SIZE⟩, ⟨_, PySem.W.mg_of X G y_MOST_DEPTH⟩, ⟨_, PySem.W.mg_of X G y_HIGHEST⟩⟩
  exact ⟨_, fun s v => .of_eq rfl, fun base _ _ => ok_true law_true (ok_law T)⟩
theorem walk {l : PySem.W.OpenLaw} {q : Program} {loose : List Str} {XP : (Str → Option Value) → Heap → Prop} {YP : World → Heap → Prop} {d : DefRec} {K : Params → PySem.W.Frag} (hn : l.most = some 63) (hdf : d.params.defaults = [])
    (hY : ∀ (w : World) (h : Heap), YP w h → (K w.params).In h)
    (F : ∀ (w : World) (mg : Str → Option Value) (fa : Addr) (h : Heap), (K w.params).In h → h.Ns mainGlobals mg → mg d.name = some (.ref fa) →
      ∃ fd : FuncData, (∀ (s : Shared) (u : Value), BindsTo s fd ⟨[u], []⟩ [("_law_script", u)]) ∧ ∀ base : Heap, (K w.params).In base → base.Ns mainGlobals mg → FnOk l.prog w (K w.params) mg base CX0 17 fa fd ["_law_script"] (spTrue (K w.params))) :
    PySem.W.WalkO q loose XP YP l.row.toRowW d [] (fun f vs => PySem.call f vs) :=
  L2.walk_of (n := 63) (k := 17) (x := "_law_script") (CX := fun _ => CX0) (sp := fun w => spTrue (K w.params)) hn (by decide) hdf ⟨rfl, by decide, by decide⟩ hY F
    (fun _ H a ns hl _ hS => sp_start hl (fun p h => nomatch h) hS) fun _ _ _ _ _ z => z
end Q
open PySem PySem.W PyProof.Rows in
set_option maxRecDepth 100000 in
set_option maxHeartbeats 0 in
theorem PySem.Challenge.cw_pinbarrel_k11_side_by_side_holds : PySem.Challenge.rw_pinbarrel_k11_side_by_side.Holds := by
  w_on; o_law; k_head; (case hw => w_witness2)
  k_fill
  refine Q.walk (l := PySem.Challenge.rw_pinbarrel_k11_side_by_side) rfl rfl (fun w h Y => by first | exact PySem.W.kIn_of Y | exact PySem.W.km_in_of Y) ?F
  case F =>
    intro w mg fa h KX G hmg
    refine' Q.all_mk KX G hmg ?ac_WorksError ?ec_WorksError ?tc_WorksError ?ic_WorksError ?sp_WorksError ?rd_WorksError ?fd_WorksError ?ac_NoPart ?ec_NoPart ?tc_NoPart ?ic_NoPart ?ac_NoText ?ec_NoText ?tc_NoText ?ic_NoText ?ac_Near ?ec_Near ?tc_Near ?ic_Near ?xl_Near ?sa_Near ?kc_Near ?ai_Near ?ti_Near ?li_Near ?ci_Near ?ki_Near ?no_Near_one ?no_Near_other ?ac_NoSeam ?ec_NoSeam ?tc_NoSeam ?ic_NoSeam ?xl_NoSeam ?sa_NoSeam ?kc_NoSeam ?ai_NoSeam ?ti_NoSeam ?li_NoSeam ?ci_NoSeam ?ki_NoSeam ?no_NoSeam_start ?no_NoSeam_over ?ac_NoBarrel ?ec_NoBarrel ?tc_NoBarrel ?ic_NoBarrel ?ac_NoName ?ec_NoName ?tc_NoName ?ic_NoName ?ac_NoSense ?ec_NoSense ?tc_NoSense ?ic_NoSense ?xl_NoSense ?sa_NoSense ?kc_NoSense ?ai_NoSense ?ti_NoSense ?li_NoSense ?ci_NoSense ?ki_NoSense ?no_NoSense_place ?ac_NoRow ?ec_NoRow ?tc_NoRow ?ic_NoRow ?xi_NoPart ?kq_NoPart ?h1_NoPart ?h2_NoPart ?h4_NoPart ?h5_NoPart ?h8_NoPart ?h6_ ?h7_ ?ks_NoPart_Near ?kn_NoPart_Near ?ks_NoPart_NoBarrel ?kn_NoPart_NoBarrel ?ks_NoPart_NoName ?kn_NoPart_NoName ?ks_NoPart_NoRow ?kn_NoPart_NoRow ?ks_NoPart_NoSeam ?kn_NoPart_NoSeam ?ks_NoPart_NoSense ?kn_NoPart_NoSense ?ks_NoPart_NoText ?kn_NoPart_NoText ?ks_NoPart_ValueError ?ks_NoPart_WorksError ?xs_NoPart_NoPart ?ac_Part ?ac_Tone ?ac_Rest ?ac_Row ?ac_Beside ?pg_Tone ?ph_Tone ?pp_Tone ?ps_Tone ?pn_Tone_inner ?pn_Tone_long ?pn_Tone_written ?pn_Tone_held ?pn_Tone_deep ?pn_Tone_low ?pn_Tone_high ?pn_Tone_pitch ?pn_Tone_many ?pn_Tone_by ?pg_Rest ?ph_Rest ?pp_Rest ?ps_Rest ?pn_Rest_inner ?pn_Rest_long ?pn_Rest_written ?pn_Rest_held ?pn_Rest_deep ?pn_Rest_low ?pn_Rest_high ?pn_Rest_pitch ?pn_Rest_many ?pn_Rest_by ?pg_Row ?ph_Row ?pp_Row ?ps_Row ?pn_Row_inner ?pn_Row_long ?pn_Row_written ?pn_Row_held ?pn_Row_deep ?pn_Row_low ?pn_Row_high ?pn_Row_pitch ?pn_Row_many ?pn_Row_by ?pg_Beside ?ph_Beside ?pp_Beside ?ps_Beside ?pn_Beside_inner ?pn_Beside_long ?pn_Beside_written ?pn_Beside_held ?pn_Beside_deep ?pn_Beside_low ?pn_Beside_high ?pn_Beside_pitch ?pn_Beside_many ?pn_Beside_by ?pm_Tone_cells ?pm_Rest_cells ?pm_Row_cells ?pm_Beside_cells ?pf_Part_cells ?pm_Tone_depth ?pm_Rest_depth ?pm_Row_depth ?pm_Beside_depth ?pf_Part_depth ?pm_Tone_highest ?pm_Rest_highest ?pm_Row_highest ?pm_Beside_highest ?pf_Part_highest ?pm_Tone_leaves ?pm_Rest_leaves ?pm_Row_leaves ?pm_Beside_leaves ?pf_Part_leaves ?pm_Tone_lowest ?pm_Rest_lowest ?pm_Row_lowest ?pm_Beside_lowest ?pf_Part_lowest ?pm_Tone_size ?pm_Rest_size ?pm_Row_size ?pm_Beside_size ?pf_Part_size ?pw_Beside ?pq_Beside ?pi_Beside ?pw_Rest ?pq_Rest ?pi_Rest ?pw_Row ?pq_Row ?pi_Row ?pw_Tone ?pq_Tone ?pi_Tone ?pf_Tone_words ?pf_Rest_words ?pf_Row_words ?pf_Beside_words ?bs_ ?br_ ?bf_ ?a0 ?l0 ?c0 ?k0 ?a1 ?l1 ?c1 ?k1 ?a2 ?l2 ?c2 ?k2 ?a3 ?l3 ?c3 ?k3 ?a4 ?l4 ?c4 ?k4 ?a5 ?l5 ?c5 ?k5 ?a6 ?l6 ?c6 ?k6 ?a7 ?l7 ?c7 ?k7 ?a8 ?l8 ?c8 ?k8 ?a9 ?l9 ?c9 ?k9 ?a10 ?l10 ?c10 ?k10 ?a11 ?l11 ?c11 ?k11 ?a12 ?l12 ?c12 ?k12 ?a13 ?l13 ?c13 ?k13 ?a14 ?l14 ?c14 ?k14 ?a15 ?l15 ?c15 ?k15 ?a16 ?l16 ?c16 ?k16 ?a17 ?l17 ?c17 ?k17 ?a18 ?l18 ?c18 ?k18 ?a19 ?l19 ?c19 ?k19 ?a20 ?l20 ?c20 ?k20 ?a21 ?l21 ?c21 ?k21 ?a22 ?l22 ?c22 ?k22 ?a23 ?l23 ?c23 ?k23 ?a24 ?l24 ?c24 ?k24 ?a25 ?l25 ?c25 ?k25 ?a26 ?l26 ?c26 ?k26 ?a27 ?l27 ?c27 ?k27 ?z_ValueError ?z_bool ?z_int ?z_isinstance ?z_len ?z_list ?z_max ?z_min ?z_range ?z_str ?z_sum ?y_MOST_CELLS ?y_MOST_LEAVES ?y_MOST_SIZE ?y_MOST_DEPTH ?y_HIGHEST
    (case ac_WorksError => k_is)
    (case ec_WorksError => k_is)
    (case tc_WorksError => k_is)
    (case ic_WorksError => k_is)
    (case sp_WorksError => k_is)
    (case rd_WorksError => k_is)
    (case fd_WorksError => k_is)
    (case ac_NoPart => k_is)
    (case ec_NoPart => k_is)
    (case tc_NoPart => k_is)
    (case ic_NoPart => k_is)
    (case ac_NoText => k_is)
    (case ec_NoText => k_is)
    (case tc_NoText => k_is)
    (case ic_NoText => k_is)
    (case ac_Near => k_is)
    (case ec_Near => k_is)
    (case tc_Near => k_is)
    (case ic_Near => k_is)
    (case xl_Near => k_is)
    (case sa_Near => k_is)
    (case kc_Near => k_is)
    (case ai_Near => k_is)
    (case ti_Near => k_is)
    (case li_Near => k_is)
    (case ci_Near => k_is)
    (case ki_Near => k_is)
    (case no_Near_one => k_is)
    (case no_Near_other => k_is)
    (case ac_NoSeam => k_is)
    (case ec_NoSeam => k_is)
    (case tc_NoSeam => k_is)
    (case ic_NoSeam => k_is)
    (case xl_NoSeam => k_is)
    (case sa_NoSeam => k_is)
    (case kc_NoSeam => k_is)
    (case ai_NoSeam => k_is)
    (case ti_NoSeam => k_is)
    (case li_NoSeam => k_is)
    (case ci_NoSeam => k_is)
    (case ki_NoSeam => k_is)
    (case no_NoSeam_start => k_is)
    (case no_NoSeam_over => k_is)
    (case ac_NoBarrel => k_is)
    (case ec_NoBarrel => k_is)
    (case tc_NoBarrel => k_is)
    (case ic_NoBarrel => k_is)
    (case ac_NoName => k_is)
    (case ec_NoName => k_is)
    (case tc_NoName => k_is)
    (case ic_NoName => k_is)
    (case ac_NoSense => k_is)
    (case ec_NoSense => k_is)
    (case tc_NoSense => k_is)
    (case ic_NoSense => k_is)
    (case xl_NoSense => k_is)
    (case sa_NoSense => k_is)
    (case kc_NoSense => k_is)
    (case ai_NoSense => k_is)
    (case ti_NoSense => k_is)
    (case li_NoSense => k_is)
    (case ci_NoSense => k_is)
    (case ki_NoSense => k_is)
    (case no_NoSense_place => k_is)
    (case ac_NoRow => k_is)
    (case ec_NoRow => k_is)
    (case tc_NoRow => k_is)
    (case ic_NoRow => k_is)
    (case xi_NoPart => k_exc)
    (case kq_NoPart => k_is)
    (case h1_NoPart => k_is)
    (case h2_NoPart => k_is)
    (case h4_NoPart => k_is)
    (case h5_NoPart => k_is)
    (case h8_NoPart => k_is)
    (case h6_ => k_is)
    (case h7_ => k_is)
    (case ks_NoPart_Near => k_is)
    (case kn_NoPart_Near => decide)
    (case ks_NoPart_NoBarrel => k_is)
    (case kn_NoPart_NoBarrel => decide)
    (case ks_NoPart_NoName => k_is)
    (case kn_NoPart_NoName => decide)
    (case ks_NoPart_NoRow => k_is)
    (case kn_NoPart_NoRow => decide)
    (case ks_NoPart_NoSeam => k_is)
    (case kn_NoPart_NoSeam => decide)
    (case ks_NoPart_NoSense => k_is)
    (case kn_NoPart_NoSense => decide)
    (case ks_NoPart_NoText => k_is)
    (case kn_NoPart_NoText => decide)
    (case ks_NoPart_ValueError => k_is)
    (case ks_NoPart_WorksError => k_is)
    (case xs_NoPart_NoPart => first | rfl | k_is)
    (case ac_Part => k_is)
    (case ac_Tone => k_is)
    (case ac_Rest => k_is)
    (case ac_Row => k_is)
    (case ac_Beside => k_is)
    (case pg_Tone => k_is)
    (case ph_Tone => k_is)
    (case pp_Tone => k_is)
    (case ps_Tone => k_is)
    (case pn_Tone_inner => k_is)
    (case pn_Tone_long => k_is)
    (case pn_Tone_written => k_is)
    (case pn_Tone_held => k_is)
    (case pn_Tone_deep => k_is)
    (case pn_Tone_low => k_is)
    (case pn_Tone_high => k_is)
    (case pn_Tone_pitch => k_is)
    (case pn_Tone_many => k_is)
    (case pn_Tone_by => k_is)
    (case pg_Rest => k_is)
    (case ph_Rest => k_is)
    (case pp_Rest => k_is)
    (case ps_Rest => k_is)
    (case pn_Rest_inner => k_is)
    (case pn_Rest_long => k_is)
    (case pn_Rest_written => k_is)
    (case pn_Rest_held => k_is)
    (case pn_Rest_deep => k_is)
    (case pn_Rest_low => k_is)
    (case pn_Rest_high => k_is)
    (case pn_Rest_pitch => k_is)
    (case pn_Rest_many => k_is)
    (case pn_Rest_by => k_is)
    (case pg_Row => k_is)
    (case ph_Row => k_is)
    (case pp_Row => k_is)
    (case ps_Row => k_is)
    (case pn_Row_inner => k_is)
    (case pn_Row_long => k_is)
    (case pn_Row_written => k_is)
    (case pn_Row_held => k_is)
    (case pn_Row_deep => k_is)
    (case pn_Row_low => k_is)
    (case pn_Row_high => k_is)
    (case pn_Row_pitch => k_is)
    (case pn_Row_many => k_is)
    (case pn_Row_by => k_is)
    (case pg_Beside => k_is)
    (case ph_Beside => k_is)
    (case pp_Beside => k_is)
    (case ps_Beside => k_is)
    (case pn_Beside_inner => k_is)
    (case pn_Beside_long => k_is)
    (case pn_Beside_written => k_is)
    (case pn_Beside_held => k_is)
    (case pn_Beside_deep => k_is)
    (case pn_Beside_low => k_is)
    (case pn_Beside_high => k_is)
    (case pn_Beside_pitch => k_is)
    (case pn_Beside_many => k_is)
    (case pn_Beside_by => k_is)
    (case pm_Tone_cells => k_is)
    (case pm_Rest_cells => k_is)
    (case pm_Row_cells => k_is)
    (case pm_Beside_cells => k_is)
    (case pm_Tone_depth => k_is)
    (case pm_Rest_depth => k_is)
    (case pm_Row_depth => k_is)
    (case pm_Beside_depth => k_is)
    (case pm_Tone_highest => k_is)
    (case pm_Rest_highest => k_is)
    (case pm_Row_highest => k_is)
    (case pm_Beside_highest => k_is)
    (case pm_Tone_leaves => k_is)
    (case pm_Rest_leaves => k_is)
    (case pm_Row_leaves => k_is)
    (case pm_Beside_leaves => k_is)
    (case pm_Tone_lowest => k_is)
    (case pm_Rest_lowest => k_is)
    (case pm_Row_lowest => k_is)
    (case pm_Beside_lowest => k_is)
    (case pm_Tone_size => k_is)
    (case pm_Rest_size => k_is)
    (case pm_Row_size => k_is)
    (case pm_Beside_size => k_is)
    (case pw_Beside => k_is)
    (case pq_Beside => k_is)
    (case pw_Rest => k_is)
    (case pq_Rest => k_is)
    (case pw_Row => k_is)
    (case pq_Row => k_is)
    (case pw_Tone => k_is)
    (case pq_Tone => k_is)
    (case bs_ => k_is)
    (case br_ => k_is)
    (case bf_ => k_is)
    (case a0 => k_is)
    (case l0 => k_is)
    (case c0 => k_is)
    (case k0 => k_is)
    (case a1 => k_is)
    (case l1 => k_is)
    (case c1 => k_is)
    (case k1 => k_is)
    (case a2 => k_is)
    (case l2 => k_is)
    (case c2 => k_is)
    (case k2 => k_is)
    (case a3 => k_is)
    (case l3 => k_is)
    (case c3 => k_is)
    (case k3 => k_is)
    (case a4 => k_is)
    (case l4 => k_is)
    (case c4 => k_is)
    (case k4 => k_is)
    (case a5 => k_is)
    (case l5 => k_is)
    (case c5 => k_is)
    (case k5 => k_is)
    (case a6 => k_is)
    (case l6 => k_is)
    (case c6 => k_is)
    (case k6 => k_is)
    (case a7 => k_is)
    (case l7 => k_is)
    (case c7 => k_is)
    (case k7 => k_is)
    (case a8 => k_is)
    (case l8 => k_is)
    (case c8 => k_is)
    (case k8 => k_is)
    (case a9 => k_is)
    (case l9 => k_is)
    (case c9 => k_is)
    (case k9 => k_is)
    (case a10 => k_is)
    (case l10 => k_is)
    (case c10 => k_is)
    (case k10 => k_is)
    (case a11 => k_is)
    (case l11 => k_is)
    (case c11 => k_is)
    (case k11 => k_is)
    (case a12 => k_is)
    (case l12 => k_is)
    (case c12 => k_is)
    (case k12 => k_is)
    (case a13 => k_is)
    (case l13 => k_is)
    (case c13 => k_is)
    (case k13 => k_is)
    (case a14 => k_is)
    (case l14 => k_is)
    (case c14 => k_is)
    (case k14 => k_is)
    (case a15 => k_is)
    (case l15 => k_is)
    (case c15 => k_is)
    (case k15 => k_is)
    (case a16 => k_is)
    (case l16 => k_is)
    (case c16 => k_is)
    (case k16 => k_is)
    (case a17 => k_is)
    (case l17 => k_is)
    (case c17 => k_is)
    (case k17 => k_is)
    (case a18 => k_is)
    (case l18 => k_is)
    (case c18 => k_is)
    (case k18 => k_is)
    (case a19 => k_is)
    (case l19 => k_is)
    (case c19 => k_is)
    (case k19 => k_is)
    (case a20 => k_is)
    (case l20 => k_is)
    (case c20 => k_is)
    (case k20 => k_is)
    (case a21 => k_is)
    (case l21 => k_is)
    (case c21 => k_is)
    (case k21 => k_is)
    (case a22 => k_is)
    (case l22 => k_is)
    (case c22 => k_is)
    (case k22 => k_is)
    (case a23 => k_is)
    (case l23 => k_is)
    (case c23 => k_is)
    (case k23 => k_is)
    (case a24 => k_is)
    (case l24 => k_is)
    (case c24 => k_is)
    (case k24 => k_is)
    (case a25 => k_is)
    (case l25 => k_is)
    (case c25 => k_is)
    (case k25 => k_is)
    (case a26 => k_is)
    (case l26 => k_is)
    (case c26 => k_is)
    (case k26 => k_is)
    (case a27 => k_is)
    (case l27 => k_is)
    (case c27 => k_is)
    (case k27 => k_is)
    (case z_ValueError => k_is)
    (case z_bool => k_is)
    (case z_int => k_is)
    (case z_isinstance => k_is)
    (case z_len => k_is)
    (case z_list => k_is)
    (case z_max => k_is)
    (case z_min => k_is)
    (case z_range => k_is)
    (case z_str => k_is)
    (case z_sum => k_is)
    (case y_MOST_CELLS => k_is)
    (case y_MOST_LEAVES => k_is)
    (case y_MOST_SIZE => k_is)
    (case y_MOST_DEPTH => k_is)
    (case y_HIGHEST => k_is)
    (case pf_Part_cells => k_is)
    (case pf_Part_depth => k_is)
    (case pf_Part_highest => k_is)
    (case pf_Part_leaves => k_is)
    (case pf_Part_lowest => k_is)
    (case pf_Part_size => k_is)
    (case pi_Beside => k_is)
    (case pi_Rest => k_is)
    (case pi_Row => k_is)
    (case pi_Tone => k_is)
    (case pf_Tone_words => k_is)
    (case pf_Rest_words => k_is)
    (case pf_Row_words => k_is)
    (case pf_Beside_words => k_is)
