import PyProof.Rows.All
import Wide.All
import OpenK.AllK
import Wide.FinOn
import HandS.ForMost
import HandS.ForExc
import HandS.Walk
import HandS.Zip
import HandS.Star
import HandS.DictComp
import HandS.TupAny
import HandS.More
import HandS.Conv
import KE.GoesEnum
import PySem.Challenge.RW_solidnames_k81_added_and_taken_cells
import KE.KeyNested
import HandS.IsInst
import PyProof.SumAnyB
import PyProof.Rows.SumGenD
import PyProof.ZipIter
import HandS.ExcInit
import KE.KExcInit
import KE.KSuper
import HandS.NestedK
import HandS.Property
import KE.KDictCopyH
import HandS.SortRule
import HandS.SortInts
import HandS.TupLen
import KE.KEqNest
import HandS.Codes
import HandS.Wide
import KE.KDictPairs
import HandS.RaiseMore
import HandS.Lambda
import HandS.ExcField
import HandS.ExcIs
import HandS.HeadNt
import HandS.HeadHook4
import KE.KStateDown
import HandS.Head0
import HandS.Head1
import HandS.Head2
import HandS.HeadWalk
section TKA
set_option Elab.async false
set_option linter.all false
set_option maxRecDepth 100000
set_option maxHeartbeats 4000017
/-! KA: knowledge of heaps that locks leave alone (Le), data relations (Rel), evaluation to data (EV, ET, EA), small rules. -/
namespace SN
open PySem PySem.Spec PyProof.Rows L2

/-! ### heaps -/
def core : HO → HO
  | .frz _ (.dK l) => .dK l
  | .frz _ (.dT l) => .dT l
  | .frz _ (.ext p) => .ext p
  | o => o
def co (H : Hp) (a : Addr) : Option HO := (H a).map core
def Le (H H' : Hp) : Prop := ∀ a c, co H a = some c → co H' a = some c
theorem Le.refl (H : Hp) : Le H H := fun _ _ h => h
theorem Le.trans {H H1 H2 : Hp} (a : Le H H1) (b : Le H1 H2) : Le H H2 := fun x c h => b x c (a x c h)
theorem same_le {H H' : Hp} (s : Same H H') : Le H H' := fun a c h => by
  unfold co at h ⊢
  cases q : H a with
  | none => rw [q] at h; cases h
  | some o => rw [q] at h; rw [s a o q]; exact h
theorem co_none {H : Hp} {a : Addr} : co H a = none ↔ H a = none := by
  unfold co; cases H a <;> simp
theorem Le.fresh {H H' : Hp} (l : Le H H') {p : Addr} (h : H' p = none) : H p = none := by
  cases q : H p with
  | none => rfl
  | some o =>
    have : co H' p = some (core o) := l p _ (by unfold co; rw [q]; rfl)
    rw [co_none.mpr h] at this; cases this
theorem same_new {H : Hp} {p : Addr} {o : HO} (h : H p = none) : Same H (upd H p o) := fun a u e => by
  rw [upd_ne (ne_of_none e h)]; exact e
/-- an object that H does not know may change -/
theorem same_mut {H H' : Hp} {p : Addr} {o : HO} (e : Same H H') (h : H p = none) : Same H (upd H' p o) := fun a u ha => by
  rw [upd_ne (ne_of_none ha h)]; exact e a u ha
theorem le_mut {H H' : Hp} {p : Addr} {o : HO} (e : Le H H') (h : H p = none) : Le H (upd H' p o) := fun a c ha => by
  have hp : a ≠ p := fun z => by subst z; rw [co_none.mpr h] at ha; cases ha
  have := e a c ha
  unfold co at this ⊢
  rw [upd_ne hp]; exact this
theorem co_of {H : Hp} {a : Addr} {o : HO} (h : H a = some o) (hc : core o = o) : co H a = some o := by unfold co; rw [h]; simp [hc]
/-- from a core back to what stands there -/
theorem of_co {H : Hp} {a : Addr} {c : HO} (h : co H a = some c) (hn : ∀ o l, c ≠ .frz o l) (h1 : ∀ l, c ≠ .dK l) (h2 : ∀ l, c ≠ .dT l) (h3 : ∀ l, c ≠ .ext l) : H a = some c := by
  unfold co at h
  cases q : H a with
  | none => rw [q] at h; cases h
  | some o =>
    rw [q] at h
    have e : core o = c := Option.some.inj h
    subst e
    cases o with
    | frz ob u =>
      cases u with
      | dK l => exact absurd rfl (h1 l)
      | dT l => exact absurd rfl (h2 l)
      | ext l => exact absurd rfl (h3 l)
      | _ => exact absurd rfl (hn _ _)
    | _ => rfl
theorem co_tup {H : Hp} {a : Addr} {xs : List V} : co H a = some (.tup xs) ↔ H a = some (.tup xs) :=
  ⟨fun h => of_co h (by intros; simp) (by intros; simp) (by intros; simp) (by intros; simp), fun h => co_of h rfl⟩
theorem co_lst {H : Hp} {a : Addr} {xs : List V} : co H a = some (.lst xs) ↔ H a = some (.lst xs) :=
  ⟨fun h => of_co h (by intros; simp) (by intros; simp) (by intros; simp) (by intros; simp), fun h => co_of h rfl⟩
theorem co_ins {H : Hp} {a C dx : Addr} {fs : List (Str × V)} : co H a = some (.ins C dx fs) ↔ H a = some (.ins C dx fs) :=
  ⟨fun h => of_co h (by intros; simp) (by intros; simp) (by intros; simp) (by intros; simp), fun h => co_of h rfl⟩
theorem co_rd {H : Hp} {a : Addr} {u : HO} (hd : (∃ l, u = .dK l) ∨ (∃ l, u = .dT l) ∨ (∃ l, u = .ext l)) : co H a = some u ↔ Rd H a u := by
  constructor
  · intro h
    unfold co at h
    cases q : H a with
    | none => rw [q] at h; cases h
    | some o =>
      rw [q] at h
      have e : core o = u := Option.some.inj h
      cases o with
      | frz ob v =>
        cases v with
        | dK l => exact .inr ⟨ob, by rw [q, ← e]; rfl⟩
        | dT l => exact .inr ⟨ob, by rw [q, ← e]; rfl⟩
        | ext l => exact .inr ⟨ob, by rw [q, ← e]; rfl⟩
        | _ => subst e; rcases hd with ⟨_, e⟩ | ⟨_, e⟩ | ⟨_, e⟩ <;> cases e
      | _ => subst e; exact .inl q
  · rintro (h | ⟨o, h⟩)
    · unfold co; rw [h]; rcases hd with ⟨_, rfl⟩ | ⟨_, rfl⟩ | ⟨_, rfl⟩ <;> rfl
    · unfold co; rw [h]; rcases hd with ⟨_, rfl⟩ | ⟨_, rfl⟩ | ⟨_, rfl⟩ <;> rfl
theorem co_dK {H : Hp} {a : Addr} {l : List (Key × V)} : co H a = some (.dK l) ↔ Rd H a (.dK l) := co_rd (.inl ⟨l, rfl⟩)
theorem co_dT {H : Hp} {a : Addr} {l : List (List Key × V)} : co H a = some (.dT l) ↔ Rd H a (.dT l) := co_rd (.inr (.inl ⟨l, rfl⟩))
theorem co_ext {H : Hp} {a : Addr} {l : Heap → Prop} : co H a = some (.ext l) ↔ Rd H a (.ext l) := co_rd (.inr (.inr ⟨l, rfl⟩))
/-- locking and unlocking are no change -/
theorem co_lock {H : Hp} {d : Addr} {u : HO} {od : Obj} (h : H d = some u) (hd : (∃ l, u = .dK l) ∨ (∃ l, u = .dT l) ∨ (∃ l, u = .ext l)) : co (upd H d (.frz od u)) = co H := by
  funext a
  unfold co
  by_cases e : a = d
  · subst e; rw [upd_same, h]; rcases hd with ⟨_, rfl⟩ | ⟨_, rfl⟩ | ⟨_, rfl⟩ <;> rfl
  · rw [upd_ne e]
theorem co_unlock {H : Hp} {d : Addr} {u : HO} {od : Obj} (h : H d = some (.frz od u)) (hd : (∃ l, u = .dK l) ∨ (∃ l, u = .dT l) ∨ (∃ l, u = .ext l)) : co (upd H d u) = co H := by
  funext a
  unfold co
  by_cases e : a = d
  · subst e; rw [upd_same, h]; rcases hd with ⟨_, rfl⟩ | ⟨_, rfl⟩ | ⟨_, rfl⟩ <;> rfl
  · rw [upd_ne e]
theorem le_of_co {H H' : Hp} (h : co H' = co H) : Le H H' := fun a c q => by rw [h]; exact q
theorem le_rd {H H' : Hp} {a : Addr} {u : HO} (hu : (∃ l, u = .lst l) ∨ (∃ l, u = .tup l)) (l : Le H H') (h : Rd H a u) : Rd H' a u := by
  rcases h with h | ⟨o, h⟩
  · refine .inl (of_co (l a u (co_of h ?_)) ?_ ?_ ?_ ?_) <;> rcases hu with ⟨_, rfl⟩ | ⟨_, rfl⟩ <;> first | rfl | (intros; simp)
  · have e : co H' a = some (.frz o u) := l a _ (co_of h (by rcases hu with ⟨_, rfl⟩ | ⟨_, rfl⟩ <;> rfl))
    refine .inr ⟨o, ?_⟩
    unfold co at e
    cases q : H' a with
    | none => rw [q] at e; cases e
    | some v =>
      rw [q] at e
      have e : core v = .frz o u := Option.some.inj e
      cases v with
      | frz ob w => cases w <;> simp_all [core]
      | _ => simp_all [core]
theorem le_L {K : PySem.W.Frag} {H H' : Hp} {a : Addr} {xs : List V} (l : Le H H') (h : SqL K H a xs) : SqL K H' a xs := h.elim (fun h => .inl (le_rd (.inl ⟨xs, rfl⟩) l h)) .inr
theorem le_T {K : PySem.W.Frag} {H H' : Hp} {a : Addr} {xs : List V} (l : Le H H') (h : SqT K H a xs) : SqT K H' a xs := h.elim (fun h => .inl (le_rd (.inr ⟨xs, rfl⟩) l h)) .inr

/-! ### data relations -/
structure Rel (α : Type) where
  r : Hp → V → α → Prop
  mono : ∀ {H H' : Hp} {v : V} {a : α}, Le H H' → r H v a → r H' v a
def rInt : Rel Int := ⟨fun _ v a => v = .int a, fun _ h => h⟩
def rStr : Rel Str := ⟨fun _ v a => v = .str a, fun _ h => h⟩
def rBl : Rel Bool := ⟨fun _ v a => v = .bl a, fun _ h => h⟩
def rNon : Rel Unit := ⟨fun _ v _ => v = .non, fun _ h => h⟩
/-- just this value -/
def rVal : Rel V := ⟨fun _ v a => v = a, fun _ h => h⟩
theorem Paired.imp {α β : Type} {F G : α → β → Prop} (h : ∀ a b, F a b → G a b) : ∀ {l : List α} {m : List β}, Paired F l m → Paired G l m
  | _, _, .nil => .nil
  | _, _, .cons a t => .cons (h _ _ a) (Paired.imp h t)
def rTupL (K : PySem.W.Frag) {α : Type} (r : Rel α) : Rel (List α) := ⟨fun H v l => ∃ p vs, v = .ref p ∧ SqT K H p vs ∧ Paired (r.r H) vs l,
  fun le ⟨p, vs, e, h, q⟩ => ⟨p, vs, e, le_T le h, Paired.imp (fun _ _ z => r.mono le z) q⟩⟩
def rLst (K : PySem.W.Frag) {α : Type} (r : Rel α) : Rel (List α) := ⟨fun H v l => ∃ p vs, v = .ref p ∧ SqL K H p vs ∧ Paired (r.r H) vs l,
  fun le ⟨p, vs, e, h, q⟩ => ⟨p, vs, e, le_L le h, Paired.imp (fun _ _ z => r.mono le z) q⟩⟩
def rTup2 (K : PySem.W.Frag) {α β : Type} (r : Rel α) (s : Rel β) : Rel (α × β) := ⟨fun H v a => ∃ p x y, v = .ref p ∧ SqT K H p [x, y] ∧ r.r H x a.1 ∧ s.r H y a.2,
  fun le ⟨p, x, y, e, h, q1, q2⟩ => ⟨p, x, y, e, le_T le h, r.mono le q1, s.mono le q2⟩⟩
def rTup3 (K : PySem.W.Frag) {α β γ : Type} (r : Rel α) (s : Rel β) (t : Rel γ) : Rel (α × β × γ) := ⟨fun H v a => ∃ p x y z, v = .ref p ∧ SqT K H p [x, y, z] ∧ r.r H x a.1 ∧ s.r H y a.2.1 ∧ t.r H z a.2.2,
  fun le ⟨p, x, y, z, e, h, q1, q2, q3⟩ => ⟨p, x, y, z, e, le_T le h, r.mono le q1, s.mono le q2, t.mono le q3⟩⟩
abbrev Cell := Int × Int × Int
def ck (c : Cell) : List Key := [.inl c.1, .inl c.2.1, .inl c.2.2]
/-- a triple of ints as a new tuple -/
def rCell : Rel Cell := ⟨fun H v c => ∃ p, v = .ref p ∧ co H p = some (.tup [.int c.1, .int c.2.1, .int c.2.2]), fun le ⟨p, e, h⟩ => ⟨p, e, le p _ h⟩⟩
theorem rCell.sq {K : PySem.W.Frag} {H : Hp} {v : V} {c : Cell} (h : rCell.r H v c) : (rTup3 K rInt rInt rInt).r H v c := by
  obtain ⟨p, e, h⟩ := h
  exact ⟨p, _, _, _, e, SqT.of (co_tup.mp h), rfl, rfl, rfl⟩
def rDI {α : Type} (r : Rel α) : Rel (List (Int × α)) := ⟨fun H v l => ∃ p kvs, v = .ref p ∧ co H p = some (.dK kvs) ∧ Paired (fun (kv : Key × V) (ka : Int × α) => kv.1 = .inl ka.1 ∧ r.r H kv.2 ka.2) kvs l,
  fun le ⟨p, vs, e, h, q⟩ => ⟨p, vs, e, le p _ h, Paired.imp (fun _ _ z => ⟨z.1, r.mono le z.2⟩) q⟩⟩
def rDC {α : Type} (r : Rel α) : Rel (List (Cell × α)) := ⟨fun H v l => ∃ p kvs, v = .ref p ∧ co H p = some (.dT kvs) ∧ Paired (fun (kv : List Key × V) (ka : Cell × α) => kv.1 = ck ka.1 ∧ r.r H kv.2 ka.2) kvs l,
  fun le ⟨p, vs, e, h, q⟩ => ⟨p, vs, e, le p _ h, Paired.imp (fun _ _ z => ⟨z.1, r.mono le z.2⟩) q⟩⟩

/-! ### knowledge: K, a part of the heap H; what is mutable stands in H alone -/
def isTup : HO → Bool
  | .tup _ => true
  | _ => false
structure Nxt (K H K' H' : Hp) : Prop where
  le : Le K K'
  in_ : Le K' H'
  same : Same H H'
  out : ∀ a o, H a = some o → isTup o = false → K a = none → K' a = none
theorem Nxt.refl {K H : Hp} (l : Le K H) : Nxt K H K H := ⟨Le.refl K, l, Same.refl H, fun _ _ _ _ h => h⟩
theorem Nxt.trans {K H K1 H1 K2 H2 : Hp} (a : Nxt K H K1 H1) (b : Nxt K1 H1 K2 H2) : Nxt K H K2 H2 :=
  ⟨a.le.trans b.le, b.in_, a.same.trans b.same, fun x o h1 h2 h3 => b.out x o (a.same x o h1) h2 (a.out x o h1 h2 h3)⟩
theorem le_upd {K H : Hp} (l : Le K H) {p : Addr} {o : HO} : Le (upd K p o) (upd H p o) := fun a c h => by
  unfold co at h ⊢
  by_cases e : a = p
  · subst e; rw [upd_same] at h ⊢; exact h
  · rw [upd_ne e] at h ⊢; exact l a c h
theorem le_new' {K : Hp} {p : Addr} {o : HO} (h : K p = none) : Le K (upd K p o) := same_le (same_new h)
/-- a new object that is known -/
theorem Nxt.new {K H : Hp} (l : Le K H) {p : Addr} {o : HO} (h : H p = none) : Nxt K H (upd K p o) (upd H p o) :=
  ⟨le_new' (l.fresh h), le_upd l, same_new h, fun a o h1 _ h2 => by rw [upd_ne (ne_of_none h1 h)]; exact h2⟩
/-- a new object that will change -/
theorem Nxt.raw {K H : Hp} (l : Le K H) {p : Addr} {o : HO} (h : H p = none) : Nxt K H K (upd H p o) :=
  ⟨Le.refl K, le_mut l (l.fresh h), same_new h, fun _ _ _ _ h => h⟩
/-- .. changes -/
theorem Nxt.mut {K H K1 H1 : Hp} (n : Nxt K H K1 H1) {p : Addr} {o : HO} (h : H p = none) (hk : K1 p = none) : Nxt K H K1 (upd H1 p o) :=
  ⟨n.le, le_mut n.in_ hk, same_mut n.same h, n.out⟩
/-- .. and is known from now on -/
theorem Nxt.pub {K H K1 H1 : Hp} (n : Nxt K H K1 H1) {p : Addr} {o : HO} (h : H p = none) (hk : K1 p = none) (e : H1 p = some o) : Nxt K H (upd K1 p o) H1 :=
  ⟨n.le.trans (le_new' hk), fun a c q => by
    by_cases z : a = p
    · subst z; unfold co at q ⊢; rw [upd_same] at q; rw [e]; exact q
    · unfold co at q; rw [upd_ne z] at q; exact n.in_ a c q, n.same, fun a o h1 h2 h3 => by rw [upd_ne (ne_of_none h1 h)]; exact n.out a o h1 h2 h3⟩
/-- two parts together -/
def join (K K' : Hp) : Hp := fun a => match K a with | some o => some o | none => K' a
theorem join_l {K K' : Hp} : Le K (join K K') := fun a c h => by
  unfold co join at *
  cases q : K a with
  | none => rw [q] at h; cases h
  | some o => rw [q] at h; exact h
theorem join_r {K K' H : Hp} (l : Le K H) (l' : Le K' H) : Le K' (join K K') := fun a c h => by
  have h2 := l' a c h
  unfold co join at *
  cases q : K a with
  | none => exact h
  | some o =>
    have h1 := l a (core o) (by unfold co; rw [q]; rfl)
    unfold co at h1
    rw [h1] at h2
    simpa using h2
theorem join_in {K K' H : Hp} (l : Le K H) (l' : Le K' H) : Le (join K K') H := fun a c h => by
  unfold co join at h
  cases q : K a with
  | none => rw [q] at h; exact l' a c h
  | some o => rw [q] at h; exact l a c (by unfold co; rw [q]; exact h)
theorem Nxt.wide {K K1 H K' H' : Hp} (n : Nxt K H K' H') (l : Le K K1) (l1 : Le K1 H) : Nxt K1 H (join K1 K') H' ∧ Le K' (join K1 K') :=
  ⟨⟨join_l, join_in (l1.trans (same_le n.same)) n.in_, n.same, fun a o h1 h2 h3 => by
    have hk : K a = none := l.fresh h3
    unfold join
    rw [h3]
    exact n.out a o h1 h2 hk⟩, join_r (l1.trans (same_le n.same)) n.in_⟩

/-! ### canonical readings -/
section
variable {X : Cx}
def wE (X : Cx) (e : Expr) : TE := fun σ H Q => ∀ pins s, Inv X pins σ H s → wpAny (model X.prog X.w) X.A (eval e X.env) (EP X pins σ Q) X.xe s
def wT (X : Cx) (e : Expr) : TT := fun σ H Q => ∀ pins s, Inv X pins σ H s → wpAny (model X.prog X.w) X.A (isTrue e X.env (eval e X.env)) (TP X pins σ Q) X.xe s
def wW (X : Cx) (e : Expr) : TT := fun σ H Q => ∀ (whole : Sem Value) pins s, Inv X pins σ H s → wpAny (model X.prog X.w) X.A (isTrue e X.env whole) (TP X pins σ Q) X.xe s
def wA (X : Cx) (es : List Expr) : TA := fun σ H Q => ∀ pos pins s, Inv X pins σ H s → wpAny (model X.prog X.w) X.A (spliced (backTo pos (starEach es X.env))) (AP X pins σ Q) X.xe s
def wS (X : Cx) (st : Stmt) : TS := fun D σ H => ∀ pins s, Inv X pins σ H s → wpAny (model X.prog X.w) X.A (exec st X.env) (SP X pins D) X.xe s
def wSs (X : Cx) (st : List Stmt) : TS := fun D σ H => ∀ pins s, Inv X pins σ H s → wpAny (model X.prog X.w) X.A (execs st X.env) (SP X pins D) X.xe s
def wI (X : Cx) (tg iter : Expr) : TI := fun σ H R => ∀ pins s, Inv X pins σ H s → wpAny (model X.prog X.w) X.A (eval iter X.env) (fun v s1 => wpAny (model X.prog X.w) X.A (pyIter v) (PIE X pins σ tg R) X.xe s1) X.xe s
theorem peW (e : Expr) : PE X e (wE X e) := ⟨fun pins s _ _ _ I h => h pins s I⟩
theorem ptW (e : Expr) : PT X e (wT X e) := ⟨fun pins s _ _ _ I h => h pins s I⟩
theorem pwW (e : Expr) : PW X e (wW X e) := ⟨fun wh pins s _ _ _ I h => h wh pins s I⟩
theorem paW (es : List Expr) : PA X es (wA X es) := ⟨fun pos pins s _ _ _ I h => h pos pins s I⟩
theorem psW (st : Stmt) : PS X st (wS X st) := ⟨fun pins s _ _ _ I h => h pins s I⟩
theorem pssW (st : List Stmt) : PSs X st (wSs X st) := ⟨fun pins s _ _ _ I h => h pins s I⟩
theorem piW (tg iter : Expr) : PI X tg iter (wI X tg iter) := ⟨fun pins s _ _ _ I h => h pins s I⟩
theorem PE.to {e : Expr} {t : TE} (h : PE X e t) {σ : L2.St} {H : Hp} {Q : VK} (q : t σ H Q) : wE X e σ H Q := fun pins s I => h.run pins s σ H Q I q
theorem PT.to {e : Expr} {t : TT} (h : PT X e t) {σ : L2.St} {H : Hp} {Q : Bool → Hp → Prop} (q : t σ H Q) : wT X e σ H Q := fun pins s I => h.run pins s σ H Q I q
theorem PW.to {e : Expr} {t : TT} (h : PW X e t) {σ : L2.St} {H : Hp} {Q : Bool → Hp → Prop} (q : t σ H Q) : wW X e σ H Q := fun wh pins s I => h.run wh pins s σ H Q I q
theorem PA.to {es : List Expr} {t : TA} (h : PA X es t) {σ : L2.St} {H : Hp} {Q : List V → Hp → Prop} (q : t σ H Q) : wA X es σ H Q := fun pos pins s I => h.run pos pins s σ H Q I q
theorem PS.to {st : Stmt} {t : TS} (h : PS X st t) {D : Ends} {σ : L2.St} {H : Hp} (q : t D σ H) : wS X st D σ H := fun pins s I => h.run pins s σ H D I q
theorem PSs.to {st : List Stmt} {t : TS} (h : PSs X st t) {D : Ends} {σ : L2.St} {H : Hp} (q : t D σ H) : wSs X st D σ H := fun pins s I => h.run pins s σ H D I q
theorem PI.to {tg iter : Expr} {t : TI} (h : PI X tg iter t) {σ : L2.St} {H : Hp} {R : It → Hp → Prop} (q : t σ H R) : wI X tg iter σ H R := fun pins s I => h.run pins s σ H R I q
end

/-! ### evaluation to data -/
section
variable {X : Cx} {α β γ δ : Type} {σ : L2.St} {K H K' H' : Hp} {r : Rel α} {a : α}
def EV (X : Cx) (e : Expr) (σ : L2.St) (K : Hp) {α : Type} (r : Rel α) (a : α) : Prop := ∀ H, Le K H → ∀ Q : VK, (∀ v K' H', Nxt K H K' H' → r.r K' v a → Q v H') → wE X e σ H Q
def ET (X : Cx) (e : Expr) (σ : L2.St) (K : Hp) (b : Bool) : Prop := ∀ H, Le K H → ∀ Q : Bool → Hp → Prop, (∀ H', Same H H' → Q b H') → wT X e σ H Q
def EW (X : Cx) (e : Expr) (σ : L2.St) (K : Hp) (b : Bool) : Prop := ∀ H, Le K H → ∀ Q : Bool → Hp → Prop, (∀ H', Same H H' → Q b H') → wW X e σ H Q
/-- several arguments; what holds of their values is said of the knowledge behind the last -/
def EA (X : Cx) (es : List Expr) (σ : L2.St) (K : Hp) (P : List V → Hp → Prop) : Prop := ∀ H, Le K H → ∀ Q : List V → Hp → Prop, (∀ vs K' H', Nxt K H K' H' → P vs K' → Q vs H') → wA X es σ H Q
theorem EV.mono {e : Expr} (l : Le K K') (h : EV X e σ K r a) : EV X e σ K' r a := fun H l1 Q q => h H (l.trans l1) Q fun v K2 H2 n hv =>
  let ⟨n', l'⟩ := n.wide l l1; q v _ H2 n' (r.mono l' hv)
theorem ET.mono {e : Expr} {b : Bool} (l : Le K K') (h : ET X e σ K b) : ET X e σ K' b := fun H1 l1 => h H1 (l.trans l1)
theorem EW.mono {e : Expr} {b : Bool} (l : Le K K') (h : EW X e σ K b) : EW X e σ K' b := fun H1 l1 => h H1 (l.trans l1)
/-- what is said of arguments lives on with knowledge -/
def Mo (P : List V → Hp → Prop) : Prop := ∀ vs K K', Le K K' → P vs K → P vs K'
theorem EA.mono {es : List Expr} {P : List V → Hp → Prop} (hP : Mo P) (l : Le K K') (h : EA X es σ K P) : EA X es σ K' P := fun H l1 Q q => h H (l.trans l1) Q fun v K2 H2 n hv =>
  let ⟨n', l'⟩ := n.wide l l1; q v _ H2 n' (hP v _ _ l' hv)
/-- the same data by another relation -/
theorem EV.imp {e : Expr} {s : Rel β} {b : β} (h : EV X e σ K r a) (f : ∀ K' v, Le K K' → r.r K' v a → s.r K' v b) : EV X e σ K s b := fun H l Q q => h H l Q fun v K2 H2 n hv => q v K2 H2 n (f K2 v n.le hv)
theorem EV.of {e : Expr} {b : α} (h : EV X e σ K r b) (eq : b = a) : EV X e σ K r a := eq ▸ h
theorem ET.of {e : Expr} {b c : Bool} (h : ET X e σ K b) (eq : b = c) : ET X e σ K c := eq ▸ h

theorem ev_name (i : Nat) {x : Str} {pos : Pos} {v : V} (hs : σ[i]? = some (some v)) (hv : r.r K v a) (hN : X.N[i]? = some x := by rfl) (hvis : Vis X.env.scope x := by first | exact Or.inl rfl | exact Or.inr (Or.inl rfl) | exact Or.inr (Or.inr rfl))
    (hd : (x == ("__debug__" : Str)) = false := by decide) (hcd : (x == ("__classdict__" : Str)) = false := by decide) : EV X (.Name x pos) σ K r a :=
  fun H l Q q => PE.to (pe_var hN hvis hd hcd) ⟨v, hs, q v K H (.refl l) hv⟩
theorem ev_int {i : Int} {j pos} : EV X (.Constant (.int i) j pos) σ K rInt i := fun H l Q q => PE.to pe_int (q _ K H (.refl l) rfl)
theorem ev_str {i : Str} {j pos} : EV X (.Constant (.str i) j pos) σ K rStr i := fun H l Q q => PE.to pe_str (q _ K H (.refl l) rfl)
theorem ev_bl {i : Bool} {j pos} : EV X (.Constant (.bool i) j pos) σ K rBl i := fun H l Q q => PE.to pe_bl (q _ K H (.refl l) rfl)
theorem ev_non {j pos} : EV X (.Constant .none j pos) σ K rNon () := fun H l Q q => PE.to pe_non (q _ K H (.refl l) rfl)
/-- a module's constant -/
theorem ev_glob {x : Str} {v : V} {u : Value} {pos : Pos} (hm : X.mg x = some u) (rv : RelV v u) (hv : r.r K v a) (hg : Gl X x := by rfl) (hd : (x == ("__debug__" : Str)) = false := by decide) : EV X (.Name x pos) σ K r a :=
  fun H l Q q => PE.to (pe_glob hg hm rv hd) (q v K H (.refl l) hv)

/-! operators -/
/-- what an operation on values is to do -/
def OpD (rr : R2) (r1 : Rel α) (r2 : Rel β) (r3 : Rel γ) (K0 : Hp) (x : α) (y : β) (z : γ) : Prop := ∀ K H u v (Q : VK), Le K0 K → Le K H → r1.r K u x → r2.r K v y → (∀ w K' H', Nxt K H K' H' → r3.r K' w z → Q w H') → rr u v H Q
theorem ev_op {a b : Expr} {op : Operator} {pos : Pos} {rr : R2} {r1 : Rel α} {r2 : Rel β} {r3 : Rel γ} {x : α} {y : β} {z : γ} (ho : OpR X (binaryOp op) rr) (ha : EV X a σ K r1 x) (hb : EV X b σ K r2 y) (hq : OpD rr r1 r2 r3 K x y z) : EV X (.BinOp a op b pos) σ K r3 z := fun H l Q q =>
  PE.to (pe_op ho (peW a) (peW b)) (ha H l _ fun u K1 H1 n1 hu => hb.mono n1.le H1 n1.in_ _ fun v K2 H2 n2 hv =>
    hq K2 H2 u v Q (n1.trans n2).le n2.in_ (r1.mono n2.le hu) hv fun w K3 H3 n3 hw => q w K3 H3 ((n1.trans n2).trans n3) hw)
theorem ev_cmp {a b : Expr} {op : CmpOp} {pos : Pos} {rr : R2} {r1 : Rel α} {r2 : Rel β} {r3 : Rel γ} {x : α} {y : β} {z : γ} (ho : OpR X (compareOp op) rr) (hm : behindInMarks op b = false) (ha : EV X a σ K r1 x) (hb : EV X b σ K r2 y) (hq : OpD rr r1 r2 r3 K x y z) : EV X (.Compare a [op] [b] pos) σ K r3 z := fun H l Q q =>
  PE.to (pe_cmpR ho (peW a) (peW b) hm) (ha H l _ fun u K1 H1 n1 hu => hb.mono n1.le H1 n1.in_ _ fun v K2 H2 n2 hv =>
    hq K2 H2 u v Q (n1.trans n2).le n2.in_ (r1.mono n2.le hu) hv fun w K3 H3 n3 hw => q w K3 H3 ((n1.trans n2).trans n3) hw)
theorem et_cmp {a b : Expr} {op : CmpOp} {pos : Pos} {rr : R2} {r1 : Rel α} {r2 : Rel β} {x : α} {y : β} {z : Bool} (ho : OpR X (compareOp op) rr) (hm : behindInMarks op b = false) (ha : EV X a σ K r1 x) (hb : EV X b σ K r2 y) (hq : OpD rr r1 r2 rBl K x y z) : ET X (.Compare a [op] [b] pos) σ K z := fun H l Q q =>
  PT.to (pt_cmpR ho (peW a) (peW b) hm) (ha H l _ fun u K1 H1 n1 hu => hb.mono n1.le H1 n1.in_ _ fun v K2 H2 n2 hv =>
    hq K2 H2 u v _ (n1.trans n2).le n2.in_ (r1.mono n2.le hu) hv fun w K3 H3 n3 hw => ⟨z, hw, q H3 ((n1.trans n2).trans n3).same⟩)
theorem opI2 {f : Int → Int → V} {r3 : Rel γ} {i j : Int} {z : γ} (h : ∀ K, r3.r K (f i j) z) : OpD (rI0 f) rInt rInt r3 K i j z := fun K1 H1 u v Q _ l hu hv q => ⟨i, j, hu, hv, q _ K1 H1 (.refl l) (h K1)⟩
theorem opIc {C : Int → Int → Prop} {f : Int → Int → V} {r3 : Rel γ} {i j : Int} {z : γ} (c : C i j) (h : ∀ K, r3.r K (f i j) z) : OpD (rI C f) rInt rInt r3 K i j z := fun K1 H1 u v Q _ l hu hv q => ⟨i, j, hu, hv, c, q _ K1 H1 (.refl l) (h K1)⟩
theorem ev_add {a b : Expr} {pos : Pos} {i j : Int} (ha : EV X a σ K rInt i) (hb : EV X b σ K rInt j) : EV X (.BinOp a .Add b pos) σ K rInt (i + j) := ev_op op_add ha hb (opI2 fun _ => rfl)
theorem ev_sub {a b : Expr} {pos : Pos} {i j : Int} (ha : EV X a σ K rInt i) (hb : EV X b σ K rInt j) : EV X (.BinOp a .Sub b pos) σ K rInt (i - j) := ev_op op_sub ha hb (opI2 fun _ => rfl)
theorem ev_mul {a b : Expr} {pos : Pos} {i j : Int} (c : CMul i j) (ha : EV X a σ K rInt i) (hb : EV X b σ K rInt j) : EV X (.BinOp a .Mult b pos) σ K rInt (i * j) := ev_op op_mul ha hb (opIc c fun _ => rfl)
theorem ev_mod {a b : Expr} {pos : Pos} {i j : Int} (c : 0 < j) (ha : EV X a σ K rInt i) (hb : EV X b σ K rInt j) : EV X (.BinOp a .Mod b pos) σ K rInt (i % j) := ev_op op_mod ha hb (opIc c fun _ => rfl)
theorem ev_fdiv {a b : Expr} {pos : Pos} {i j : Int} (c : CDiv i j) (ha : EV X a σ K rInt i) (hb : EV X b σ K rInt j) : EV X (.BinOp a .FloorDiv b pos) σ K rInt (i / j) := ev_op op_fdiv ha hb (opIc c fun _ => rfl)
/-- int comparisons -/
theorem et_lt {a b : Expr} {pos : Pos} {i j : Int} (ha : EV X a σ K rInt i) (hb : EV X b σ K rInt j) : ET X (.Compare a [.Lt] [b] pos) σ K (decide (i < j)) := et_cmp op_lt (nomark _) ha hb (opI2 fun _ => rfl)
theorem et_le {a b : Expr} {pos : Pos} {i j : Int} (ha : EV X a σ K rInt i) (hb : EV X b σ K rInt j) : ET X (.Compare a [.LtE] [b] pos) σ K (decide (i ≤ j)) := et_cmp op_le (nomark _) ha hb (opI2 fun _ => rfl)
theorem et_gt {a b : Expr} {pos : Pos} {i j : Int} (ha : EV X a σ K rInt i) (hb : EV X b σ K rInt j) : ET X (.Compare a [.Gt] [b] pos) σ K (decide (j < i)) := et_cmp op_gt (nomark _) ha hb (opI2 fun _ => rfl)
theorem et_ge {a b : Expr} {pos : Pos} {i j : Int} (ha : EV X a σ K rInt i) (hb : EV X b σ K rInt j) : ET X (.Compare a [.GtE] [b] pos) σ K (decide (j ≤ i)) := et_cmp op_ge (nomark _) ha hb (opI2 fun _ => rfl)
theorem ev_lt {a b : Expr} {pos : Pos} {i j : Int} (ha : EV X a σ K rInt i) (hb : EV X b σ K rInt j) : EV X (.Compare a [.Lt] [b] pos) σ K rBl (decide (i < j)) := ev_cmp op_lt (nomark _) ha hb (opI2 fun _ => rfl)
theorem ev_le {a b : Expr} {pos : Pos} {i j : Int} (ha : EV X a σ K rInt i) (hb : EV X b σ K rInt j) : EV X (.Compare a [.LtE] [b] pos) σ K rBl (decide (i ≤ j)) := ev_cmp op_le (nomark _) ha hb (opI2 fun _ => rfl)
theorem ev_gt {a b : Expr} {pos : Pos} {i j : Int} (ha : EV X a σ K rInt i) (hb : EV X b σ K rInt j) : EV X (.Compare a [.Gt] [b] pos) σ K rBl (decide (j < i)) := ev_cmp op_gt (nomark _) ha hb (opI2 fun _ => rfl)
/-- a < b < c and the like, of ints -/
theorem ev_chain2 {a b c : Expr} {o1 o2 : CmpOp} {pos : Pos} {p1 p2 : Int → Int → Bool} {i j k : Int} (h1 : OpR X (compareOp o1) (rI0 fun i j => .bl (p1 i j))) (h2 : OpR X (compareOp o2) (rI0 fun i j => .bl (p2 i j))) (ha : EV X a σ K rInt i) (hb : EV X b σ K rInt j) (hc : EV X c σ K rInt k)
    (m1 : lastMarks [o1, o2] [b, c] = false := by rfl) : EV X (.Compare a [o1, o2] [b, c] pos) σ K rBl (p1 i j && p2 j k) := fun H l Q q =>
  PE.to (pe_chain h1 h2 (peW a) (peW b) (peW c) m1) (ha H l _ fun u K1 H1 n1 hu => hb.mono n1.le H1 n1.in_ _ fun v K2 H2 n2 hv => ⟨i, j, hu, hv, p1 i j, rfl, by
    cases e : p1 i j with
    | true => exact iteT (hc.mono (n1.trans n2).le H2 n2.in_ _ fun w K3 H3 n3 hw => ⟨j, k, hv, hw, q _ K3 H3 ((n1.trans n2).trans n3) (by rw [e]; rfl)⟩)
    | false => exact iteF (q _ K2 H2 (n1.trans n2) (by rw [e]; rfl))⟩)
/-- == and != of scalars -/
theorem opEqI {i j : Int} : OpD rEq rInt rInt rBl K i j (decide (i = j)) := fun K1 H1 u v Q _ l hu hv q => by
  obtain rfl : u = .int i := hu
  obtain rfl : v = .int j := hv
  exact ⟨rfl, q _ K1 H1 (.refl l) (by show V.bl _ = V.bl _; congr 1; simp)⟩
theorem opNeI {i j : Int} : OpD rNe rInt rInt rBl K i j (!decide (i = j)) := fun K1 H1 u v Q _ l hu hv q => by
  obtain rfl : u = .int i := hu
  obtain rfl : v = .int j := hv
  exact ⟨rfl, q _ K1 H1 (.refl l) (by show V.bl _ = V.bl _; congr 2; simp)⟩
theorem opEqS {i j : Str} : OpD rEq rStr rStr rBl K i j (decide (i = j)) := fun K1 H1 u v Q _ l hu hv q => by
  obtain rfl : u = .str i := hu
  obtain rfl : v = .str j := hv
  exact ⟨rfl, q _ K1 H1 (.refl l) (by show V.bl _ = V.bl _; congr 1; simp)⟩
theorem opNeS {i j : Str} : OpD rNe rStr rStr rBl K i j (!decide (i = j)) := fun K1 H1 u v Q _ l hu hv q => by
  obtain rfl : u = .str i := hu
  obtain rfl : v = .str j := hv
  exact ⟨rfl, q _ K1 H1 (.refl l) (by show V.bl _ = V.bl _; congr 2; simp)⟩
theorem opEqB {i j : Bool} : OpD rEq rBl rBl rBl K i j (decide (i = j)) := fun K1 H1 u v Q _ l hu hv q => by
  obtain rfl : u = .bl i := hu
  obtain rfl : v = .bl j := hv
  exact ⟨rfl, q _ K1 H1 (.refl l) (by show V.bl _ = V.bl _; congr 1; simp)⟩
theorem et_eqI {a b : Expr} {pos : Pos} {i j : Int} (ha : EV X a σ K rInt i) (hb : EV X b σ K rInt j) : ET X (.Compare a [.Eq] [b] pos) σ K (decide (i = j)) := et_cmp op_eq (nomark _) ha hb opEqI
theorem et_neI {a b : Expr} {pos : Pos} {i j : Int} (ha : EV X a σ K rInt i) (hb : EV X b σ K rInt j) : ET X (.Compare a [.NotEq] [b] pos) σ K (!decide (i = j)) := et_cmp op_ne (nomark _) ha hb opNeI
theorem ev_eqI {a b : Expr} {pos : Pos} {i j : Int} (ha : EV X a σ K rInt i) (hb : EV X b σ K rInt j) : EV X (.Compare a [.Eq] [b] pos) σ K rBl (decide (i = j)) := ev_cmp op_eq (nomark _) ha hb opEqI
theorem et_eqS {a b : Expr} {pos : Pos} {i j : Str} (ha : EV X a σ K rStr i) (hb : EV X b σ K rStr j) : ET X (.Compare a [.Eq] [b] pos) σ K (decide (i = j)) := et_cmp op_eq (nomark _) ha hb opEqS
theorem et_neS {a b : Expr} {pos : Pos} {i j : Str} (ha : EV X a σ K rStr i) (hb : EV X b σ K rStr j) : ET X (.Compare a [.NotEq] [b] pos) σ K (!decide (i = j)) := et_cmp op_ne (nomark _) ha hb opNeS
theorem ev_eqS {a b : Expr} {pos : Pos} {i j : Str} (ha : EV X a σ K rStr i) (hb : EV X b σ K rStr j) : EV X (.Compare a [.Eq] [b] pos) σ K rBl (decide (i = j)) := ev_cmp op_eq (nomark _) ha hb opEqS
theorem ev_eqB {a b : Expr} {pos : Pos} {i j : Bool} (ha : EV X a σ K rBl i) (hb : EV X b σ K rBl j) : EV X (.Compare a [.Eq] [b] pos) σ K rBl (decide (i = j)) := ev_cmp op_eq (nomark _) ha hb opEqB
theorem et_eqB {a b : Expr} {pos : Pos} {i j : Bool} (ha : EV X a σ K rBl i) (hb : EV X b σ K rBl j) : ET X (.Compare a [.Eq] [b] pos) σ K (decide (i = j)) := et_cmp op_eq (nomark _) ha hb opEqB

/-! tests -/
theorem et_val {e : Expr} {b : Bool} (h : EV X e σ K rBl b) (he : ∀ whole, isTrue e X.env whole = (do let v ← whole; standAt e.pos; holding [v] (truthy v)) := by intro _; rfl) : ET X e σ K b := fun H l Q q =>
  PT.to (pt_val (peW e) he) (h H l _ fun v K1 H1 n hv => ⟨b, hv, q H1 n.same⟩)
theorem EW.et {e : Expr} {b : Bool} (h : EW X e σ K b) : ET X e σ K b := fun H l Q q => PT.to (pwW e).pt (h H l Q q)
theorem et_not {e : Expr} {b : Bool} {pos : Pos} (h : ET X e σ K b) : ET X (.UnaryOp .Not e pos) σ K (!b) := fun H l Q q => PT.to (pt_not (ptW e)) (h H l _ fun H2 s2 => q H2 s2)
theorem ew_and1 {e : Expr} {b : Bool} {pos : Pos} (h : ET X e σ K b) : EW X (.BoolOp .And [e] pos) σ K b := fun H l Q q => PW.to (pw_and1 (ptW e)) (h H l Q q)
theorem ew_or1 {e : Expr} {b : Bool} {pos : Pos} (h : ET X e σ K b) : EW X (.BoolOp .Or [e] pos) σ K b := fun H l Q q => PW.to (pw_or1 (ptW e)) (h H l Q q)
theorem ew_and {e f : Expr} {es : List Expr} {b c : Bool} {pos : Pos} (h : ET X e σ K b) (h2 : b = true → EW X (.BoolOp .And (f :: es) pos) σ K c) : EW X (.BoolOp .And (e :: f :: es) pos) σ K (b && c) := fun H l Q q =>
  PW.to (pw_and (ptW e) (pwW (.BoolOp .And (f :: es) pos))) (h H l _ fun H2 s2 => by
    cases b with
    | true => exact iteT (h2 rfl H2 (l.trans (same_le s2)) Q fun H3 s3 => q H3 (s2.trans s3))
    | false => exact iteF (q H2 s2))
theorem ew_or {e f : Expr} {es : List Expr} {b c : Bool} {pos : Pos} (h : ET X e σ K b) (h2 : b = false → EW X (.BoolOp .Or (f :: es) pos) σ K c) : EW X (.BoolOp .Or (e :: f :: es) pos) σ K (b || c) := fun H l Q q =>
  PW.to (pw_or (ptW e) (pwW (.BoolOp .Or (f :: es) pos))) (h H l _ fun H2 s2 => by
    cases b with
    | true => exact iteT (q H2 s2)
    | false => exact iteF (h2 rfl H2 (l.trans (same_le s2)) Q fun H3 s3 => q H3 (s2.trans s3)))
theorem ev_not {e : Expr} {b : Bool} {pos : Pos} (h : EV X e σ K rBl b) : EV X (.UnaryOp .Not e pos) σ K rBl (!b) := fun H l Q q => PE.to (pe_not (peW e)) (h H l _ fun v K2 H2 n2 hv => ⟨b, hv, q _ K2 H2 n2 rfl⟩)
theorem ev_one {op} {e : Expr} {pos : Pos} (h : EV X e σ K r a) : EV X (.BoolOp op [e] pos) σ K r a := fun H l Q q => PE.to (pe_one (peW e)) (h H l Q q)
theorem ev_and {e f : Expr} {es : List Expr} {b c : Bool} {pos : Pos} (h : EV X e σ K rBl b) (h2 : b = true → EV X (.BoolOp .And (f :: es) pos) σ K rBl c) : EV X (.BoolOp .And (e :: f :: es) pos) σ K rBl (b && c) := fun H l Q q =>
  PE.to (pe_and (peW e) (peW (.BoolOp .And (f :: es) pos))) (h H l _ fun v K2 H2 n2 hv => ⟨b, hv, by
    cases b with
    | true => exact iteT ((h2 rfl).mono n2.le H2 n2.in_ Q fun v K3 H3 n3 hv => q v K3 H3 (n2.trans n3) hv)
    | false => exact iteF (q _ K2 H2 n2 rfl)⟩)
theorem ev_or {e f : Expr} {es : List Expr} {b c : Bool} {pos : Pos} (h : EV X e σ K rBl b) (h2 : b = false → EV X (.BoolOp .Or (f :: es) pos) σ K rBl c) : EV X (.BoolOp .Or (e :: f :: es) pos) σ K rBl (b || c) := fun H l Q q =>
  PE.to (pe_or (peW e) (peW (.BoolOp .Or (f :: es) pos))) (h H l _ fun v K2 H2 n2 hv => ⟨b, hv, by
    cases b with
    | true => exact iteT (q _ K2 H2 n2 rfl)
    | false => exact iteF ((h2 rfl).mono n2.le H2 n2.in_ Q fun v K3 H3 n3 hv => q v K3 H3 (n2.trans n3) hv)⟩)
theorem ev_ifexp {c e f : Expr} {b : Bool} {pos : Pos} (h : ET X c σ K b) (h1 : b = true → EV X e σ K r a) (h2 : b = false → EV X f σ K r a) : EV X (.IfExp c e f pos) σ K r a := fun H l Q q =>
  PE.to (pe_ifExp (ptW c) (peW e) (peW f)) (h H l _ fun H2 s2 => by
    have t : ∀ {K3 H3}, Nxt K H2 K3 H3 → Nxt K H K3 H3 := fun n => ⟨n.le, n.in_, s2.trans n.same, fun a o h1 h2 h3 => n.out a o (s2 a o h1) h2 h3⟩
    cases b with
    | true => exact iteT (h1 rfl H2 (l.trans (same_le s2)) Q fun v K3 H3 n3 hv => q v K3 H3 (t n3) hv)
    | false => exact iteF (h2 rfl H2 (l.trans (same_le s2)) Q fun v K3 H3 n3 hv => q v K3 H3 (t n3) hv))

/-! arguments, tuples, lists -/
theorem ea_nil : EA X [] σ K (fun vs _ => vs = []) := fun H l Q q => PA.to pa_nil (q _ K H (.refl l) rfl)
theorem mo_nil : Mo (fun vs _ => vs = []) := fun _ _ _ _ h => h
/-- the first argument, then the rest -/
def PC1 {α : Type} (r : Rel α) (a : α) (P : List V → Hp → Prop) : List V → Hp → Prop := fun vs K => ∃ v rest, vs = v :: rest ∧ r.r K v a ∧ P rest K
theorem mo_cons {P : List V → Hp → Prop} (h : Mo P) : Mo (PC1 r a P) := fun vs K K' l ⟨v, rest, e, h1, h2⟩ => ⟨v, rest, e, r.mono l h1, h rest K K' l h2⟩
theorem ea_cons {e : Expr} {es : List Expr} {P : List V → Hp → Prop} (h : EV X e σ K r a) (ht : EA X es σ K P) (hP : Mo P) (hs : starEach (e :: es) X.env = (false, eval e X.env) :: starEach es X.env := by rfl) : EA X (e :: es) σ K (PC1 r a P) := fun H l Q q =>
  PA.to (pa_cons (peW e) (paW es) hs) (h H l _ fun v K2 H2 n2 hv => ht.mono hP n2.le H2 n2.in_ _ fun vs K3 H3 n3 hp => q _ K3 H3 (n2.trans n3) ⟨v, vs, rfl, r.mono n3.le hv, hp⟩)
theorem ea_1 {e : Expr} (h : EV X e σ K r a) (hs : starEach [e] X.env = (false, eval e X.env) :: starEach [] X.env := by rfl) : EA X [e] σ K (PC1 r a fun vs _ => vs = []) := ea_cons h ea_nil mo_nil hs
theorem EA.imp {es : List Expr} {P P' : List V → Hp → Prop} (h : EA X es σ K P) (f : ∀ vs K', Le K K' → P vs K' → P' vs K') : EA X es σ K P' := fun H l Q q => h H l Q fun vs K2 H2 n2 hp => q vs K2 H2 n2 (f vs K2 n2.le hp)
/-- a star argument, a tuple or a list of like things -/
theorem sz3 {n : Nat} (h : n ≤ 1000) : n ≤ sizeLine := Nat.le_trans h (by decide)
theorem ev_tup {es : List Expr} {pos : Pos} {k : Nat} {P : List V → Hp → Prop} (h : EA X es σ K P) (f : ∀ vs K' p, Le K K' → P vs K' → vs.length ≤ sizeLine ∧ (K' p = none → r.r (upd K' p (.tup vs)) (.ref p) a)) : EV X (.Tuple es k pos) σ K r a := fun H l Q q =>
  PE.to (pe_tup (paW es)) (h H l _ fun vs K2 H2 n2 hp => ⟨(f vs K2 0 n2.le hp).1, fun p hp' => q _ _ _ (n2.trans (.new n2.in_ hp')) ((f vs K2 p n2.le hp).2 (n2.in_.fresh hp'))⟩)
theorem ev_lst {es : List Expr} {pos : Pos} {P : List V → Hp → Prop} (h : EA X es σ K P) (f : ∀ vs K' p, Le K K' → P vs K' → vs.length ≤ sizeLine ∧ (K' p = none → r.r (upd K' p (.lst vs)) (.ref p) a)) : EV X (.List es pos) σ K r a := fun H l Q q =>
  PE.to (pe_lst (paW es)) (h H l _ fun vs K2 H2 n2 hp => ⟨(f vs K2 0 n2.le hp).1, fun p hp' => q _ _ _ (n2.trans (.new n2.in_ hp')) ((f vs K2 p n2.le hp).2 (n2.in_.fresh hp'))⟩)
theorem ev_tup2 {e f : Expr} {pos : Pos} {k : Nat} {r1 : Rel α} {r2 : Rel β} {x : α} {y : β} {F : PySem.W.Frag} (h1 : EV X e σ K r1 x) (h2 : EV X f σ K r2 y)
    (hs : starEach [e, f] X.env = (false, eval e X.env) :: starEach [f] X.env := by rfl) (hs2 : starEach [f] X.env = (false, eval f X.env) :: starEach [] X.env := by rfl) : EV X (.Tuple [e, f] k pos) σ K (rTup2 F r1 r2) (x, y) :=
  ev_tup (ea_cons h1 (ea_1 h2 hs2) (mo_cons mo_nil) hs) fun vs H' p l ⟨v, _, e1, hv, w, _, e2, hw, e3⟩ => by
    subst e3; subst e2; subst e1
    exact ⟨sz3 (by simp), fun hp => ⟨p, v, w, rfl, SqT.of upd_same, r1.mono (le_new' hp) hv, r2.mono (le_new' hp) hw⟩⟩
theorem ev_tup3 {e f g : Expr} {pos : Pos} {k : Nat} {r1 : Rel α} {r2 : Rel β} {r3 : Rel γ} {x : α} {y : β} {z : γ} {F : PySem.W.Frag} (h1 : EV X e σ K r1 x) (h2 : EV X f σ K r2 y) (h3 : EV X g σ K r3 z)
    (hs : starEach [e, f, g] X.env = (false, eval e X.env) :: starEach [f, g] X.env := by rfl) (hs2 : starEach [f, g] X.env = (false, eval f X.env) :: starEach [g] X.env := by rfl) (hs3 : starEach [g] X.env = (false, eval g X.env) :: starEach [] X.env := by rfl) :
    EV X (.Tuple [e, f, g] k pos) σ K (rTup3 F r1 r2 r3) (x, y, z) :=
  ev_tup (ea_cons h1 (ea_cons h2 (ea_1 h3 hs3) (mo_cons mo_nil) hs2) (mo_cons (mo_cons mo_nil)) hs) fun vs H' p l ⟨v, _, e1, hv, w, _, e2, hw, u, _, e3, hu, e4⟩ => by
    subst e4; subst e3; subst e2; subst e1
    exact ⟨sz3 (by simp), fun hp => ⟨p, v, w, u, rfl, SqT.of upd_same, r1.mono (le_new' hp) hv, r2.mono (le_new' hp) hw, r3.mono (le_new' hp) hu⟩⟩
theorem ev_cell {e f g : Expr} {pos : Pos} {k : Nat} {x y z : Int} (h1 : EV X e σ K rInt x) (h2 : EV X f σ K rInt y) (h3 : EV X g σ K rInt z)
    (hs : starEach [e, f, g] X.env = (false, eval e X.env) :: starEach [f, g] X.env := by rfl) (hs2 : starEach [f, g] X.env = (false, eval f X.env) :: starEach [g] X.env := by rfl) (hs3 : starEach [g] X.env = (false, eval g X.env) :: starEach [] X.env := by rfl) :
    EV X (.Tuple [e, f, g] k pos) σ K rCell (x, y, z) :=
  ev_tup (ea_cons h1 (ea_cons h2 (ea_1 h3 hs3) (mo_cons mo_nil) hs2) (mo_cons (mo_cons mo_nil)) hs) fun vs H' p l ⟨v, _, e1, hv, w, _, e2, hw, u, _, e3, hu, e4⟩ => by
    subst e4; subst e3; subst e2; subst e1
    obtain rfl : v = .int x := hv
    obtain rfl : w = .int y := hw
    obtain rfl : u = .int z := hu
    exact ⟨sz3 (by simp), fun hp => ⟨p, rfl, co_tup.mpr upd_same⟩⟩
end
end SN
end TKA

section TKB
set_option Elab.async false
set_option linter.all false
set_option maxRecDepth 100000
set_option maxHeartbeats 4000017
/-! KB: statements, calls of defs by data, subscripts, built-ins over data. -/
namespace SN
open PySem PySem.Spec PyProof.Rows L2
section
variable {X : Cx} {α β γ δ : Type} {σ : L2.St} {K H K' H' : Hp} {r : Rel α} {a : α}

/-! ### statements -/
theorem ss_nil {D : Ends} (h : D.nx σ H) : wSs X [] D σ H := PSs.to pss_nil h
theorem ss_cons {st : Stmt} {rest : List Stmt} {D : Ends} (h : wS X st { D with nx := wSs X rest D } σ H) : wSs X (st :: rest) D σ H := PSs.to (pss_cons (psW st) (pssW rest)) h
theorem ss_one {st : Stmt} {D : Ends} (h : wS X st D σ H) : wSs X [st] D σ H := PSs.to (pss_one (psW st)) h
theorem s_asg {e : Expr} {x : Str} {i : Nat} {pos pos' : Pos} {D : Ends} (hN : X.N.Nodup) (hi : X.N[i]? = some x) (hx : Loc X.env.scope x) (l : Le K H) (h : EV X e σ K r a) (k : ∀ v K' H', Nxt K H K' H' → r.r K' v a → D.nx (σ.set i (some v)) H')
    (hs : swapsWith e (some (.Name x pos')) pos.line X.env = pure false := by rfl) (hf : X.fn x = true ∨ X.env.scope.names.lookup x = some .local := by first | exact .inl rfl | exact .inr rfl) : wS X (.Assign [.Name x pos'] e pos) D σ H :=
  PS.to (ps_set hN hi hx (peW e) hs hf) (h H l _ k)
/-- a target of any form -/
theorem s_asgG {tg e : Expr} {g : TG} {pos : Pos} {D : Ends} (hg : PG X tg g) (l : Le K H) (h : EV X e σ K r a) (k : ∀ v K' H', Nxt K H K' H' → r.r K' v a → g v σ H' D.nx)
    (hs : swapsWithSole [tg] e pos.line X.env = pure false := by rfl) (hw : swappedStores [tg] e X.env = pure none := by rfl)
    (h1 : (assignEach [tg] X.env).map (·.2) = [assign tg X.env] := by rfl) : wS X (.Assign [tg] e pos) D σ H :=
  PS.to (ps_asg (peW e) hg hs hw h1) (h H l _ k)
theorem s_ret {e : Expr} {pos : Pos} {D : Ends} (l : Le K H) (h : EV X e σ K r a) (k : ∀ v K' H', Nxt K H K' H' → r.r K' v a → D.rt v H') : wS X (.Return (some e) pos) D σ H :=
  PS.to (ps_ret (peW e)) (h H l _ k)
theorem s_if {c : Expr} {p q : List Stmt} {pos : Pos} {b : Bool} {D : Ends} (l : Le K H) (h : ET X c σ K b) (h1 : b = true → ∀ H1, Same H H1 → Le K H1 → wSs X p D σ H1) (h2 : b = false → ∀ H1, Same H H1 → Le K H1 → wSs X q D σ H1) : wS X (.If c p q pos) D σ H :=
  PS.to (ps_if (ptW c) (pssW p) (pssW q)) (h H l _ fun H1 s1 => by
    cases b with
    | true => exact iteT (h1 rfl H1 s1 (l.trans (same_le s1)))
    | false => exact iteF (h2 rfl H1 s1 (l.trans (same_le s1))))
theorem s_expr {e : Expr} {pos : Pos} {D : Ends} (l : Le K H) (h : EV X e σ K r a) (k : ∀ K' H', Nxt K H K' H' → D.nx σ H') (hs : swapsWith e none pos.line X.env = pure false := by rfl) : wS X (.Expr e pos) D σ H :=
  PS.to (ps_expr (peW e) hs) (h H l _ fun v K1 H1 n _ => k K1 H1 n)
theorem s_doc {x j pos pos'} {D : Ends} (k : D.nx σ H) : wS X (.Expr (.Constant (.str x) j pos) pos') D σ H := PS.to ps_doc k
/-- a step that leaves knowledge as it is -/
theorem Nxt.same1 {K H H1 : Hp} (l : Le K H) (s : Same H H1) : Nxt K H K H1 := ⟨Le.refl K, l.trans (same_le s), s, fun _ _ _ _ h => h⟩

/-! ### a def of the module -/
structure Df (P : Program) (w : World) (F : PySem.W.Frag) (mg : Str → Option Value) (base : Heap) (k : Nat) (x : Str) (sp : Sp) : Prop where
  ex : ∃ f, mg x = some (.ref f) ∧ PySem.W.keepIn F (.ref f) = true ∧ FnR P w F mg base (L2.CX P w) k f sp
theorem Df.mono {P : Program} {w : World} {F : PySem.W.Frag} {mg : Str → Option Value} {base : Heap} {j k : Nat} {x : Str} {sp : Sp} (D : Df P w F mg base j x sp) (h : j ≤ k) : Df P w F mg base k x sp :=
  let ⟨f, h1, h2, h3⟩ := D.ex; ⟨f, h1, h2, h3.mono h⟩
abbrev DfX (X : Cx) := Df X.prog X.w X.K X.mg X.base
abbrev E0' : XK := fun _ _ _ => False
theorem passL' {X : Cx} : Passes (L2.CX X.prog X.w) X E0' := fun _ _ _ _ _ _ _ h => by
  obtain ⟨_, _, _, _, _, _, _, _, _, _, _, _, z⟩ := h
  exact z.elim
/-- x(e, ..) of a def, whatever is wished of an exception -/
theorem pe_df {k : Nat} {f : Addr} {sp : Sp} {x : Str} {e : Expr} {es : List Expr} {p pos : Pos} {E : XK} {t : TA} (hm : X.mg x = some (.ref f)) (hk : PySem.W.keepIn X.K (.ref f) = true) (F : FnR X.prog X.w X.K X.mg X.base (L2.CX X.prog X.w) k f sp) (hr : Room k X.A) (hx : Passes (L2.CX X.prog X.w) X E)
    (ha : PA X (e :: es) t) (hg : Gl X x := by rfl) (hdb : (x == ("__debug__" : Str)) = false := by decide) (he : starEach (e :: es) X.env = (false, eval e X.env) :: starEach es X.env := by rfl) (hpl : (backTo pos (starEach es X.env)).any (·.1) = false := by rfl) :
    PE X (.Call (.Name x p) (e :: es) [] pos) (fun σ H Q => t σ H fun vs H1 => sp vs H1 Q E) := by
  refine ⟨fun pins s σ H Q I h => ?_⟩
  refine wpAny_Call_Name_kw (ld_glob I hg hm ?_ hdb)
  refine PySem.W.callWith_K (h₀ := X.base) I.ok.mod.kin hk (thn (ha.run pos pins s σ H _ I h) fun us s1 ⟨vs, H1, I1, r, q⟩ => ⟨I1.kIn, ?_⟩) he hpl
  exact wpAny_call (run_fnR F hr hx I1 r q)
theorem pe_df0 {k : Nat} {f : Addr} {sp : Sp} {x : Str} {p pos : Pos} {E : XK} (hm : X.mg x = some (.ref f)) (hk : PySem.W.keepIn X.K (.ref f) = true) (F : FnR X.prog X.w X.K X.mg X.base (L2.CX X.prog X.w) k f sp) (hr : Room k X.A) (hx : Passes (L2.CX X.prog X.w) X E)
    (hg : Gl X x := by rfl) (hdb : (x == ("__debug__" : Str)) = false := by decide) : PE X (.Call (.Name x p) [] [] pos) (fun σ H Q => sp [] H Q E) := by
  refine ⟨fun pins s σ H Q I h => ?_⟩
  refine wpAny_Call_Name_kw (ld_glob I hg hm ?_ hdb)
  exact PySem.W.callWith_K0 (first := []) I.kIn hk (wpAny_call (run_fnR (us := []) F hr hx I .nil h))
theorem ev_call {k : Nat} {sp : Sp} {x : Str} {e : Expr} {es : List Expr} {p pos : Pos} {P : List V → Hp → Prop} (F : DfX X k x sp) (hr : Room k X.A) (ha : EA X (e :: es) σ K P)
    (hq : ∀ vs K1 H1 Q, Le K K1 → Le K1 H1 → P vs K1 → (∀ v K2 H2, Nxt K1 H1 K2 H2 → r.r K2 v a → Q v H2) → sp vs H1 Q E0')
    (hg : Gl X x := by rfl) (hdb : (x == ("__debug__" : Str)) = false := by decide) (he : starEach (e :: es) X.env = (false, eval e X.env) :: starEach es X.env := by rfl) (hpl : (backTo pos (starEach es X.env)).any (·.1) = false := by rfl) :
    EV X (.Call (.Name x p) (e :: es) [] pos) σ K r a := fun H1 l Q q => by
  obtain ⟨f, hm, hk, FR⟩ := F.ex
  exact PE.to (pe_df hm hk FR hr passL' (paW (e :: es)) hg hdb he hpl) (ha H1 l _ fun vs K2 H2 n2 hp => hq vs K2 H2 Q n2.le n2.in_ hp fun v K3 H3 n3 hv => q v K3 H3 (n2.trans n3) hv)
theorem ev_call0 {k : Nat} {sp : Sp} {x : Str} {p pos : Pos} (F : DfX X k x sp) (hr : Room k X.A)
    (hq : ∀ H1 Q, Le K H1 → (∀ v K2 H2, Nxt K H1 K2 H2 → r.r K2 v a → Q v H2) → sp [] H1 Q E0') (hg : Gl X x := by rfl) (hdb : (x == ("__debug__" : Str)) = false := by decide) : EV X (.Call (.Name x p) [] [] pos) σ K r a := fun H1 l Q q => by
  obtain ⟨f, hm, hk, FR⟩ := F.ex
  exact PE.to (pe_df0 hm hk FR hr passL' hg hdb) (hq H1 Q l q)
/-- promises of pure defs by data, from what is known of the arguments -/
def sp0 (r : Rel δ) (z : δ) : Sp := fun vs H Q _ => vs = [] ∧ ∀ K w K' H', Le K H → Nxt K H K' H' → r.r K' w z → Q w H'
def sp1 (r1 : Rel α) (r : Rel δ) (pre : α → Prop) (f : α → δ) : Sp := fun vs H Q _ => ∃ K v a, vs = [v] ∧ Le K H ∧ r1.r K v a ∧ pre a ∧ ∀ w K' H', Nxt K H K' H' → r.r K' w (f a) → Q w H'
def sp2 (r1 : Rel α) (r2 : Rel β) (r : Rel δ) (pre : α → β → Prop) (f : α → β → δ) : Sp := fun vs H Q _ => ∃ K v a u b, vs = [v, u] ∧ Le K H ∧ r1.r K v a ∧ r2.r K u b ∧ pre a b ∧ ∀ w K' H', Nxt K H K' H' → r.r K' w (f a b) → Q w H'
def sp3 (r1 : Rel α) (r2 : Rel β) (r3 : Rel γ) (r : Rel δ) (pre : α → β → γ → Prop) (f : α → β → γ → δ) : Sp := fun vs H Q _ => ∃ K v a u b w c, vs = [v, u, w] ∧ Le K H ∧ r1.r K v a ∧ r2.r K u b ∧ r3.r K w c ∧ pre a b c ∧ ∀ z K' H', Nxt K H K' H' → r.r K' z (f a b c) → Q z H'
theorem ev_call1 {k : Nat} {x : Str} {e1 : Expr} {p pos : Pos} {r1 : Rel α} {rr : Rel δ} {pre : α → Prop} {f : α → δ} {a : α} (F : DfX X k x (sp1 r1 rr pre f)) (hr : Room k X.A) (h1 : EV X e1 σ K r1 a) (hp : pre a)
    (hg : Gl X x := by rfl) (hdb : (x == ("__debug__" : Str)) = false := by decide) (he : starEach [e1] X.env = (false, eval e1 X.env) :: starEach [] X.env := by rfl) (hpl : (backTo pos (starEach [] X.env)).any (·.1) = false := by rfl) :
    EV X (.Call (.Name x p) [e1] [] pos) σ K rr (f a) :=
  ev_call F hr (ea_1 h1 he) (fun vs K1 H1 Q l l1 ⟨v, _, e1, hv, e2⟩ q => by subst e2; subst e1; exact ⟨K1, v, a, rfl, l1, hv, hp, q⟩) hg hdb he hpl
theorem ev_call2 {k : Nat} {x : Str} {e1 e2 : Expr} {p pos : Pos} {r1 : Rel α} {r2 : Rel β} {rr : Rel δ} {pre : α → β → Prop} {f : α → β → δ} {a : α} {b : β} (F : DfX X k x (sp2 r1 r2 rr pre f)) (hr : Room k X.A) (h1 : EV X e1 σ K r1 a) (h2 : EV X e2 σ K r2 b) (hp : pre a b)
    (hg : Gl X x := by rfl) (hdb : (x == ("__debug__" : Str)) = false := by decide) (he : starEach [e1, e2] X.env = (false, eval e1 X.env) :: starEach [e2] X.env := by rfl) (he2 : starEach [e2] X.env = (false, eval e2 X.env) :: starEach [] X.env := by rfl) (hpl : (backTo pos (starEach [e2] X.env)).any (·.1) = false := by rfl) :
    EV X (.Call (.Name x p) [e1, e2] [] pos) σ K rr (f a b) :=
  ev_call F hr (ea_cons h1 (ea_1 h2 he2) (mo_cons mo_nil) he) (fun vs K1 H1 Q l l1 ⟨v, _, e1, hv, u, _, e2, hu, e3⟩ q => by subst e3; subst e2; subst e1; exact ⟨K1, v, a, u, b, rfl, l1, hv, hu, hp, q⟩) hg hdb he hpl
theorem ev_call3 {k : Nat} {x : Str} {e1 e2 e3 : Expr} {p pos : Pos} {r1 : Rel α} {r2 : Rel β} {r3 : Rel γ} {rr : Rel δ} {pre : α → β → γ → Prop} {f : α → β → γ → δ} {a : α} {b : β} {c : γ} (F : DfX X k x (sp3 r1 r2 r3 rr pre f)) (hr : Room k X.A) (h1 : EV X e1 σ K r1 a) (h2 : EV X e2 σ K r2 b) (h3 : EV X e3 σ K r3 c) (hp : pre a b c)
    (hg : Gl X x := by rfl) (hdb : (x == ("__debug__" : Str)) = false := by decide) (he : starEach [e1, e2, e3] X.env = (false, eval e1 X.env) :: starEach [e2, e3] X.env := by rfl) (he2 : starEach [e2, e3] X.env = (false, eval e2 X.env) :: starEach [e3] X.env := by rfl)
    (he3 : starEach [e3] X.env = (false, eval e3 X.env) :: starEach [] X.env := by rfl) (hpl : (backTo pos (starEach [e2, e3] X.env)).any (·.1) = false := by rfl) :
    EV X (.Call (.Name x p) [e1, e2, e3] [] pos) σ K rr (f a b c) :=
  ev_call F hr (ea_cons h1 (ea_cons h2 (ea_1 h3 he3) (mo_cons mo_nil) he2) (mo_cons (mo_cons mo_nil)) he) (fun vs K1 H1 Q l l1 ⟨v, _, e1, hv, u, _, e2, hu, w, _, e3, hw, e4⟩ q => by subst e4; subst e3; subst e2; subst e1; exact ⟨K1, v, a, u, b, w, c, rfl, l1, hv, hu, hw, hp, q⟩) hg hdb he hpl

/-! ### the entry of a def -/
section
variable {P : Program} {w : World} {F : PySem.W.Frag} {mg : Str → Option Value} {base : Heap}
abbrev cxD (P : Program) (w : World) (F : PySem.W.Frag) (mg : Str → Option Value) (base : Heap) (N : List Str) (qual : Str) (st : Stmt) (f : Addr) (cdv : Value) (A : Around) (outer : List Env) (s : Shared) (H : Hp) (E : XK) : Cx :=
  cxOf (L2.CX P w) P w F mg base N qual (defScope st) f cdv A outer s H E
/-- a def with plain parameters; body: for every context -/
theorem df_of {x qual : Str} {st : Stmt} {f : Addr} {fd : FuncData} {N ps : List Str} {k : Nat} {sp : Sp} (G : Fun F x qual st f fd) (hmg : mg x = some (.ref f)) (S : FnScope N ps (defScope st)) (hb : Binds F fd ps []) (len : ∀ vs H Q E, sp vs H Q E → vs.length = ps.length)
    (hbody : ∀ (cdv : Value) (A : Around) (outer : List Env) (s : Shared) (H : Hp) (vs : List V) (Q : VK) (E : XK), Room k (A.deeper (envOfC qual (defScope st) s.heap.objs.size f cdv)) → sp vs H Q E →
      wSs (cxD P w F mg base N qual st f cdv A outer s H E) (defBody st) { nx := fun _ H' => Q .non H', rt := Q } (start N vs) H) : Df P w F mg base (k + 1) x sp := by
  refine ⟨f, hmg, G.kp, ?_⟩
  have z : FnOk P w F mg base (L2.CX P w) (k + 1) f fd ps sp := G.okX S len fun cdv A outer s H vs Q E hr h => ⟨_, pssW _, hbody cdv A outer s H vs Q E hr h⟩
  exact (z.raw hb .nil).imp fun vs H Q E h => by rw [List.append_nil]; exact h
end

/-! ### subscripts -/
theorem ev_ixT {e i : Expr} {pos : Pos} {r1 : Rel β} {b : β} {j : Int} (h : EV X e σ K r1 b) (hi : EV X i σ K rInt j) (hq : ∀ K1 v, Le K K1 → r1.r K1 v b → ∃ p xs u, v = .ref p ∧ SqT X.K K1 p xs ∧ atI xs j = some u ∧ r.r K1 u a)
    (hs : PlainIx i := by exact fun _ _ => rfl) : EV X (.Subscript e i pos) σ K r a := fun H l Q q =>
  PE.to (pe_ix ix_tup (peW e) (peW i) hs) (h H l _ fun v K2 H2 n2 hv => hi.mono n2.le H2 n2.in_ _ fun u K3 H3 n3 hu => by
    obtain ⟨p, xs, z, e1, h1, h2, h3⟩ := hq K3 v (n2.trans n3).le (r1.mono n3.le hv)
    exact ⟨p, xs, j, z, e1, hu, le_T n3.in_ h1, h2, q _ K3 H3 (n2.trans n3) h3⟩)
theorem ev_ixL {e i : Expr} {pos : Pos} {r1 : Rel β} {b : β} {j : Int} (h : EV X e σ K r1 b) (hi : EV X i σ K rInt j) (hq : ∀ K1 v, Le K K1 → r1.r K1 v b → ∃ p xs u, v = .ref p ∧ SqL X.K K1 p xs ∧ atI xs j = some u ∧ r.r K1 u a)
    (hs : PlainIx i := by exact fun _ _ => rfl) : EV X (.Subscript e i pos) σ K r a := fun H l Q q =>
  PE.to (pe_ix ix_list (peW e) (peW i) hs) (h H l _ fun v K2 H2 n2 hv => hi.mono n2.le H2 n2.in_ _ fun u K3 H3 n3 hu => by
    obtain ⟨p, xs, z, e1, h1, h2, h3⟩ := hq K3 v (n2.trans n3).le (r1.mono n3.le hv)
    exact ⟨p, xs, j, z, e1, hu, le_L n3.in_ h1, h2, q _ K3 H3 (n2.trans n3) h3⟩)
theorem paired_get {F : α → β → Prop} : ∀ {l : List α} {m : List β} {i : Nat} {b : β}, Paired F l m → m[i]? = some b → ∃ a, l[i]? = some a ∧ F a b
  | _, _, _, _, .nil, h => by simp at h
  | _, _, 0, b, .cons q _, h => by simp at h; subst h; exact ⟨_, rfl, q⟩
  | _, _, i + 1, b, .cons _ t, h => by
    obtain ⟨x, h1, h2⟩ := paired_get (i := i) (b := b) t (by simpa using h)
    exact ⟨x, by simpa using h1, h2⟩
theorem paired_get' {F : α → β → Prop} : ∀ {l : List α} {m : List β} {i : Nat} {a : α}, Paired F l m → l[i]? = some a → ∃ b, m[i]? = some b ∧ F a b
  | _, _, _, _, .nil, h => by simp at h
  | _, _, 0, b, .cons q _, h => by simp at h; subst h; exact ⟨_, rfl, q⟩
  | _, _, i + 1, b, .cons _ t, h => by
    obtain ⟨x, h1, h2⟩ := paired_get' (i := i) (a := b) t (by simpa using h)
    exact ⟨x, by simpa using h1, h2⟩
theorem paired_len {F : α → β → Prop} {l : List α} {m : List β} (h : Paired F l m) : l.length = m.length := Paired.length h
/-- an item of a tuple of like things -/
theorem ev_itT {e i : Expr} {pos : Pos} {l : List α} {j : Nat} {a : α} (h : EV X e σ K (rTupL X.K r) l) (hi : EV X i σ K rInt (j : Int)) (ha : l[j]? = some a) (hs : PlainIx i := by exact fun _ _ => rfl) : EV X (.Subscript e i pos) σ K r a :=
  ev_ixT h hi (fun H1 v _ ⟨p, vs, e1, h1, h2⟩ => let ⟨u, g1, g2⟩ := paired_get h2 ha; ⟨p, vs, u, e1, h1, atI_nat g1, g2⟩) hs
theorem ev_itL {e i : Expr} {pos : Pos} {l : List α} {j : Nat} {a : α} (h : EV X e σ K (rLst X.K r) l) (hi : EV X i σ K rInt (j : Int)) (ha : l[j]? = some a) (hs : PlainIx i := by exact fun _ _ => rfl) : EV X (.Subscript e i pos) σ K r a :=
  ev_ixL h hi (fun H1 v _ ⟨p, vs, e1, h1, h2⟩ => let ⟨u, g1, g2⟩ := paired_get h2 ha; ⟨p, vs, u, e1, h1, atI_nat g1, g2⟩) hs
theorem ev_t20 {e : Expr} {j0 pos pos' } {r1 : Rel α} {r2 : Rel β} {c : α × β} (h : EV X e σ K (rTup2 X.K r1 r2) c) : EV X (.Subscript e (.Constant (.int 0) j0 pos') pos) σ K r1 c.1 :=
  ev_ixT h ev_int fun H1 v _ ⟨p, x, y, e1, h1, h2, h3⟩ => ⟨p, _, x, e1, h1, rfl, h2⟩
theorem ev_t21 {e : Expr} {j0 pos pos' } {r1 : Rel α} {r2 : Rel β} {c : α × β} (h : EV X e σ K (rTup2 X.K r1 r2) c) : EV X (.Subscript e (.Constant (.int 1) j0 pos') pos) σ K r2 c.2 :=
  ev_ixT h ev_int fun H1 v _ ⟨p, x, y, e1, h1, h2, h3⟩ => ⟨p, _, y, e1, h1, rfl, h3⟩
theorem ev_t30 {e : Expr} {j0 pos pos' } {r1 : Rel α} {r2 : Rel β} {r3 : Rel γ} {c : α × β × γ} (h : EV X e σ K (rTup3 X.K r1 r2 r3) c) : EV X (.Subscript e (.Constant (.int 0) j0 pos') pos) σ K r1 c.1 :=
  ev_ixT h ev_int fun H1 v _ ⟨p, x, y, z, e1, h1, h2, h3, h4⟩ => ⟨p, _, x, e1, h1, rfl, h2⟩
theorem ev_t31 {e : Expr} {j0 pos pos' } {r1 : Rel α} {r2 : Rel β} {r3 : Rel γ} {c : α × β × γ} (h : EV X e σ K (rTup3 X.K r1 r2 r3) c) : EV X (.Subscript e (.Constant (.int 1) j0 pos') pos) σ K r2 c.2.1 :=
  ev_ixT h ev_int fun H1 v _ ⟨p, x, y, z, e1, h1, h2, h3, h4⟩ => ⟨p, _, y, e1, h1, rfl, h3⟩
theorem ev_t32 {e : Expr} {j0 pos pos' } {r1 : Rel α} {r2 : Rel β} {r3 : Rel γ} {c : α × β × γ} (h : EV X e σ K (rTup3 X.K r1 r2 r3) c) : EV X (.Subscript e (.Constant (.int 2) j0 pos') pos) σ K r3 c.2.2 :=
  ev_ixT h ev_int fun H1 v _ ⟨p, x, y, z, e1, h1, h2, h3, h4⟩ => ⟨p, _, z, e1, h1, rfl, h4⟩
/-- the three of a cell by an axis 0, 1, 2 -/
def axOf (c : Cell) (j : Nat) : Int := if j = 0 then c.1 else if j = 1 then c.2.1 else c.2.2
theorem ev_cix {e i : Expr} {pos : Pos} {c : Cell} {j : Nat} (h : EV X e σ K rCell c) (hi : EV X i σ K rInt (j : Int)) (hj : j < 3) (hs : PlainIx i := by exact fun _ _ => rfl) : EV X (.Subscript e i pos) σ K rInt (axOf c j) :=
  ev_ixT h hi (fun H1 v _ ⟨p, e1, h1⟩ => by
    refine ⟨p, _, .int (axOf c j), e1, SqT.of (co_tup.mp h1), ?_, rfl⟩
    match j, hj with
    | 0, _ => rfl
    | 1, _ => rfl
    | 2, _ => rfl) hs

/-! ### built-ins by name -/
def CbD {α : Type} (rr : List V → Hp → VK → Prop) (P : List V → Hp → Prop) (r : Rel α) (K0 : Hp) (a : α) : Prop := ∀ vs K H (Q : VK), Le K0 K → Le K H → P vs K → (∀ v K' H', Nxt K H K' H' → r.r K' v a → Q v H') → rr vs H Q
theorem ev_callB {x : Str} {id : String} {rr : List V → Hp → VK → Prop} {e : Expr} {es : List Expr} {p pos : Pos} {P : List V → Hp → Prop} (hc : CallR X (.builtin id) rr) (hm : X.mg x = none) (hv : bootBuiltins x = some (.builtin id)) (ha : EA X (e :: es) σ K P)
    (hq : CbD rr P r K a) (hg : Gl X x := by rfl) (hn : x ≠ "__name__" := by decide) (hdb : (x == ("__debug__" : Str)) = false := by decide)
    (he : starEach (e :: es) X.env = (false, eval e X.env) :: starEach es X.env := by rfl) (hpl : (backTo pos (starEach es X.env)).any (·.1) = false := by rfl) : EV X (.Call (.Name x p) (e :: es) [] pos) σ K r a := fun H1 l Q q =>
  PE.to (pe_callB hc hg hm hv (paW (e :: es)) hn hdb he hpl) (ha H1 l _ fun vs K2 H2 n2 hp => hq vs K2 H2 Q n2.le n2.in_ hp fun v K3 H3 n3 hv => q v K3 H3 (n2.trans n3) hv)
theorem ev_callTy {x : Str} {id : String} {rr : List V → Hp → VK → Prop} {e : Expr} {es : List Expr} {p pos : Pos} {P : List V → Hp → Prop} (hc : CallR X (.type id) rr) (hm : X.mg x = none) (hv : bootBuiltins x = some (.type id)) (ha : EA X (e :: es) σ K P)
    (hq : CbD rr P r K a) (hg : Gl X x := by rfl) (hn : x ≠ "__name__" := by decide) (hdb : (x == ("__debug__" : Str)) = false := by decide)
    (he : starEach (e :: es) X.env = (false, eval e X.env) :: starEach es X.env := by rfl) (hpl : (backTo pos (starEach es X.env)).any (·.1) = false := by rfl) : EV X (.Call (.Name x p) (e :: es) [] pos) σ K r a := fun H1 l Q q =>
  PE.to (pe_callTy hc hg hm hv (paW (e :: es)) hn hdb he hpl) (ha H1 l _ fun vs K2 H2 n2 hp => hq vs K2 H2 Q n2.le n2.in_ hp fun v K3 H3 n3 hv => q v K3 H3 (n2.trans n3) hv)
section
variable {e : Expr} {p pos : Pos} {l : List α}
theorem ev_tupleOf (hm : X.mg "tuple" = none) (h : EV X e σ K (rLst X.K r) l) (hg : Gl X "tuple" := by rfl) (he : starEach [e] X.env = (false, eval e X.env) :: starEach [] X.env := by rfl) (hpl : (backTo pos (starEach [] X.env)).any (·.1) = false := by rfl) : EV X (.Call (.Name "tuple" p) [e] [] pos) σ K (rTupL X.K r) l :=
  ev_callTy call_tuple_of hm (by decide +kernel) (ea_1 h he) (fun vs K1 H1 Q _ l ⟨v, _, e1, ⟨p, ws, e2, h1, h2⟩, e3⟩ q => by
    subst e3; subst e1; subst e2
    exact ⟨p, ws, rfl, .inl ⟨le_L l h1, fun z hz => q _ _ _ (.new l hz) ⟨z, ws, rfl, SqT.of upd_same, Paired.imp (fun _ _ y => r.mono (le_new' (l.fresh hz)) y) h2⟩⟩⟩) hg (by decide) (by decide) he hpl
theorem ev_listOfT (hm : X.mg "list" = none) (h : EV X e σ K (rTupL X.K r) l) (hg : Gl X "list" := by rfl) (he : starEach [e] X.env = (false, eval e X.env) :: starEach [] X.env := by rfl) (hpl : (backTo pos (starEach [] X.env)).any (·.1) = false := by rfl) : EV X (.Call (.Name "list" p) [e] [] pos) σ K (rLst X.K r) l :=
  ev_callTy call_list_of hm (by decide +kernel) (ea_1 h he) (fun vs K1 H1 Q _ l ⟨v, _, e1, ⟨p, ws, e2, h1, h2⟩, e3⟩ q => by
    subst e3; subst e1; subst e2
    exact ⟨p, ws, rfl, .inr (le_T l h1), fun z hz => q _ _ _ (.new l hz) ⟨z, ws, rfl, SqL.of upd_same, Paired.imp (fun _ _ y => r.mono (le_new' (l.fresh hz)) y) h2⟩⟩) hg (by decide) (by decide) he hpl
theorem ev_lenL (hm : X.mg "len" = none) (h : EV X e σ K (rLst X.K r) l) (hg : Gl X "len" := by rfl) (he : starEach [e] X.env = (false, eval e X.env) :: starEach [] X.env := by rfl) (hpl : (backTo pos (starEach [] X.env)).any (·.1) = false := by rfl) : EV X (.Call (.Name "len" p) [e] [] pos) σ K rInt (l.length : Int) :=
  ev_callB call_len_seq hm PySem.boot_len (ea_1 h he) (fun vs K1 H1 Q _ l ⟨v, _, e1, ⟨p, ws, e2, h1, h2⟩, e3⟩ q => by
    subst e3; subst e1; subst e2
    exact ⟨p, ws, rfl, .inl (le_L l h1), q _ _ _ (.refl l) (by show V.int _ = V.int _; rw [paired_len h2])⟩) hg (by decide) (by decide) he hpl
theorem ev_lenT (hm : X.mg "len" = none) (h : EV X e σ K (rTupL X.K r) l) (hg : Gl X "len" := by rfl) (he : starEach [e] X.env = (false, eval e X.env) :: starEach [] X.env := by rfl) (hpl : (backTo pos (starEach [] X.env)).any (·.1) = false := by rfl) : EV X (.Call (.Name "len" p) [e] [] pos) σ K rInt (l.length : Int) :=
  ev_callB call_len_seq hm PySem.boot_len (ea_1 h he) (fun vs K1 H1 Q _ l ⟨v, _, e1, ⟨p, ws, e2, h1, h2⟩, e3⟩ q => by
    subst e3; subst e1; subst e2
    exact ⟨p, ws, rfl, .inr (le_T l h1), q _ _ _ (.refl l) (by show V.int _ = V.int _; rw [paired_len h2])⟩) hg (by decide) (by decide) he hpl
end
theorem paired_bl {H : Hp} : ∀ {vs : List V} {bs : List Bool}, Paired (rBl.r H) vs bs → vs = bs.map V.bl
  | _, _, .nil => rfl
  | _, _, .cons h t => by rw [paired_bl t]; obtain rfl := h; rfl
theorem paired_int {H : Hp} : ∀ {vs : List V} {bs : List Int}, Paired (rInt.r H) vs bs → vs = bs.map V.int
  | _, _, .nil => rfl
  | _, _, .cons h t => by rw [paired_int t]; obtain rfl := h; rfl
theorem paired_of_int {H : Hp} : ∀ (bs : List Int), Paired (rInt.r H) (bs.map V.int) bs
  | [] => .nil
  | _ :: t => .cons rfl (paired_of_int t)
section
variable {e : Expr} {p pos : Pos}
theorem ev_all {bs : List Bool} (hc : X.calm = true) (hm : X.mg "all" = none) (h : EV X e σ K (rLst X.K rBl) bs) (hg : Gl X "all" := by rfl) (he : starEach [e] X.env = (false, eval e X.env) :: starEach [] X.env := by rfl) (hpl : (backTo pos (starEach [] X.env)).any (·.1) = false := by rfl) : EV X (.Call (.Name "all" p) [e] [] pos) σ K rBl (bs.all id) :=
  ev_callB (cr_all hc) hm (by decide +kernel) (ea_1 h he) (fun vs K1 H1 Q _ l ⟨v, _, e1, ⟨p, ws, e2, h1, h2⟩, e3⟩ q => by
    subst e3; subst e1; subst e2
    exact ⟨p, bs, rfl, paired_bl h2 ▸ le_L l h1, q _ _ _ (.refl l) rfl⟩) hg (by decide) (by decide) he hpl
theorem ev_any {bs : List Bool} (hc : X.calm = true) (hm : X.mg "any" = none) (h : EV X e σ K (rLst X.K rBl) bs) (hg : Gl X "any" := by rfl) (he : starEach [e] X.env = (false, eval e X.env) :: starEach [] X.env := by rfl) (hpl : (backTo pos (starEach [] X.env)).any (·.1) = false := by rfl) : EV X (.Call (.Name "any" p) [e] [] pos) σ K rBl (bs.any id) :=
  ev_callB (cr_any hc) hm (by decide +kernel) (ea_1 h he) (fun vs K1 H1 Q _ l ⟨v, _, e1, ⟨p, ws, e2, h1, h2⟩, e3⟩ q => by
    subst e3; subst e1; subst e2
    exact ⟨p, bs, rfl, paired_bl h2 ▸ le_L l h1, q _ _ _ (.refl l) rfl⟩) hg (by decide) (by decide) he hpl
theorem ev_sum {bs : List Int} (hc : X.calm = true) (hm : X.mg "sum" = none) (h : EV X e σ K (rLst X.K rInt) bs) (hg : Gl X "sum" := by rfl) (he : starEach [e] X.env = (false, eval e X.env) :: starEach [] X.env := by rfl) (hpl : (backTo pos (starEach [] X.env)).any (·.1) = false := by rfl) : EV X (.Call (.Name "sum" p) [e] [] pos) σ K rInt bs.sum :=
  ev_callB (cr_sum hc) hm (by decide +kernel) (ea_1 h he) (fun vs K1 H1 Q _ l ⟨v, _, e1, ⟨p, ws, e2, h1, h2⟩, e3⟩ q => by
    subst e3; subst e1; subst e2
    exact ⟨p, bs, rfl, paired_int h2 ▸ le_L l h1, q _ _ _ (.refl l) rfl⟩) hg (by decide) (by decide) he hpl
end
end
end SN
end TKB

section TKC
set_option Elab.async false
set_option linter.all false
set_option maxRecDepth 100000
set_option maxHeartbeats 4000017
/-! KC: what is walked (ES), for loops, list comprehensions. -/
namespace SN
open PySem PySem.Spec PyProof.Rows L2

/-- locks stand -/
def Lk (H H' : Hp) : Prop := ∀ d o u, H d = some (.frz o u) → H' d = some (.frz o u)
theorem Lk.refl (H : Hp) : Lk H H := fun _ _ _ h => h
theorem Lk.trans {H H1 H2 : Hp} (a : Lk H H1) (b : Lk H1 H2) : Lk H H2 := fun d o u h => b d o u (a d o u h)
theorem same_lk {H H' : Hp} (s : Same H H') : Lk H H' := fun d o u h => s d _ h
theorem Nxt.lk {K H K' H' : Hp} (n : Nxt K H K' H') : Lk H H' := same_lk n.same
theorem lk_mut {H H' : Hp} {p : Addr} {o : HO} (l : Lk H H') (h : H p = none) : Lk H (upd H' p o) := fun d ob u e => by
  rw [upd_ne (ne_of_none e h)]; exact l d ob u e
theorem lk_mut' {H H' : Hp} {p : Addr} {o u0 : HO} (l : Lk H H') (h : H p = some u0) (hn : ∀ ob u, u0 ≠ .frz ob u) : Lk H (upd H' p o) := fun d ob u e => by
  rw [upd_ne (fun z => by subst z; rw [h] at e; exact hn _ _ (Option.some.inj e))]; exact l d ob u e

section
variable {X : Cx} {α β γ δ : Type} {σ : L2.St} {K H K' H' : Hp} {r : Rel α} {a : α}
/-- an iterator that gives the items xs, known from K1 on, while the locks of H1 stand -/
def Wk (J : It) (K1 H1 : Hp) {α : Type} (r : Rel α) (xs : List α) : Prop := ∃ (G : Hp → Prop) (Y : Nat → Hp → V → Hp → Prop), Walk J xs.length G Y ∧ (∀ H', Le K1 H' → Lk H1 H' → G H') ∧
  ∀ i H' x H'', i < xs.length → Le K1 H' → Lk H1 H' → Y i H' x H'' → ∃ K2 a, xs[i]? = some a ∧ Nxt K1 H' K2 H'' ∧ r.r K2 x a
/-- what is walked; L: the dicts that must be locked -/
def ES (X : Cx) (tg iter : Expr) (σ : L2.St) (K : Hp) (L : List Addr) {α : Type} (r : Rel α) (xs : List α) : Prop :=
  ∀ H, Le K H → (∀ d ∈ L, ∃ o u, H d = some (.frz o u)) → ∀ R : It → Hp → Prop, (∀ J K1 H1, Nxt K H K1 H1 → Wk J K1 H1 r xs → R J H1) → wI X tg iter σ H R
theorem Wk.wide {J : It} {K1 K2 H1 : Hp} {xs : List α} (w : Wk J K1 H1 r xs) (l : Le K1 K2) : Wk J K2 H1 r xs := by
  obtain ⟨G, Y, w, g, y⟩ := w
  refine ⟨G, Y, w, fun H' l' k => g H' (l.trans l') k, fun i H' x H'' hi l' k q => ?_⟩
  obtain ⟨K3, a, e, n, h⟩ := y i H' x H'' hi (l.trans l') k q
  obtain ⟨n', l3⟩ := n.wide l l'
  exact ⟨_, a, e, n', r.mono l3 h⟩
theorem ES.mono {tg iter : Expr} {L : List Addr} {xs : List α} (l : Le K K') (h : ES X tg iter σ K L r xs) : ES X tg iter σ K' L r xs := fun H l1 hL R q => h H (l.trans l1) hL R fun J K2 H2 n w => by
  obtain ⟨n', l'⟩ := n.wide l l1
  exact q J _ H2 n' (w.wide l')

/-! sources -/
theorem es_list {tg e : Expr} {xs : List α} (h : EV X e σ K (rLst X.K r) xs) : ES X tg e σ K [] r xs := fun H l _ R q =>
  PI.to (pi_list (peW e)) (h H l _ fun v K1 H1 n ⟨p, vs, e1, h1, h2⟩ => ⟨p, e1, ⟨vs, le_L n.in_ h1⟩, q _ K1 H1 n ⟨_, _, (paired_len h2 ▸ (walk_list (K := X.K) (a := p) (xs := vs)) : Walk _ xs.length _ _), fun H' l' _ => le_L l' h1,
    fun i H' x H'' hi l' k y => by
      obtain ⟨e2, e3⟩ := y
      obtain ⟨a, g1, g2⟩ := paired_get' h2 e3
      subst e2
      exact ⟨K1, a, g1, .refl l', g2⟩⟩⟩)
theorem es_tup {tg e : Expr} {xs : List α} (h : EV X e σ K (rTupL X.K r) xs) : ES X tg e σ K [] r xs := fun H l _ R q =>
  PI.to (pi_tup (peW e)) (h H l _ fun v K1 H1 n ⟨p, vs, e1, h1, h2⟩ => ⟨p, e1, ⟨vs, le_T n.in_ h1⟩, q _ K1 H1 n ⟨_, _, (paired_len h2 ▸ (walk_tup (K := X.K) (a := p) (xs := vs)) : Walk _ xs.length _ _), fun H' l' _ => le_T l' h1,
    fun i H' x H'' hi l' k y => by
      obtain ⟨e2, e3⟩ := y
      obtain ⟨a, g1, g2⟩ := paired_get' h2 e3
      subst e2
      exact ⟨K1, a, g1, .refl l', g2⟩⟩⟩)
/-- the ints from lo below hi -/
def rng (lo hi : Int) : List Int := (List.range (hi - lo).toNat).map fun (i : Nat) => lo + (i : Int)
theorem rng_length (lo hi : Int) : (rng lo hi).length = (hi - lo).toNat := by simp [rng]
theorem rng_get {lo hi : Int} {i : Nat} (h : i < (rng lo hi).length) : (rng lo hi)[i]? = some (lo + (i : Int)) := by
  rw [rng_length] at h
  simp [rng, h]
theorem mem_rng {lo hi x : Int} : x ∈ rng lo hi ↔ lo ≤ x ∧ x < hi := by
  unfold rng
  rw [List.mem_map]
  constructor
  · rintro ⟨i, hi', rfl⟩
    have := List.mem_range.mp hi'
    omega
  · rintro ⟨h1, h2⟩
    exact ⟨(x - lo).toNat, List.mem_range.mpr (by omega), by omega⟩
theorem wk_range {K1 H1 : Hp} {lo hi : Int} : Wk (Itr lo (hi - lo).toNat) K1 H1 rInt (rng lo hi) :=
  ⟨_, _, by rw [rng_length]; exact walk_range, fun _ _ _ => trivial, fun i H' x H'' hi l' k y => by
    obtain ⟨e2, e3⟩ := y
    exact ⟨K1, _, rng_get hi, by subst e2; exact .refl l', e3⟩⟩
theorem es_range2 {tg a b : Expr} {p pos : Pos} {lo hi : Int} (hm : X.mg "range" = none) (ha : EV X a σ K rInt lo) (hb : EV X b σ K rInt hi) (hz : -(2 ^ 62) ≤ lo ∧ lo < 2 ^ 62 ∧ -(2 ^ 62) ≤ hi ∧ hi < 2 ^ 62) (hg : Gl X "range" := by rfl)
    (hs : starEach [a, b] X.env = [(false, eval a X.env), (false, eval b X.env)] := by rfl) (hs2 : starEach [b] X.env = [(false, eval b X.env)] := by rfl) : ES X tg (.Call (.Name "range" p) [a, b] [] pos) σ K [] rInt (rng lo hi) := fun H l _ R q =>
  PI.to (pi_range2 hg hm (paW [a, b]) hs hs2) (ea_cons ha (ea_1 hb (hs2.trans rfl)) (mo_cons mo_nil) (hs.trans (by rw [hs2])) H l _ fun vs K1 H1 n ⟨v, _, e1, hv, w, _, e2, hw, e3⟩ => by
    subst e3; subst e2; subst e1
    obtain rfl : v = .int lo := hv
    obtain rfl : w = .int hi := hw
    exact ⟨lo, hi, rfl, hz, q _ K1 H1 n wk_range⟩)
theorem es_range1 {tg b : Expr} {p pos : Pos} {hi : Int} (hm : X.mg "range" = none) (hb : EV X b σ K rInt hi) (hz : -(2 ^ 62) ≤ hi ∧ hi < 2 ^ 62) (hg : Gl X "range" := by rfl)
    (hs2 : starEach [b] X.env = [(false, eval b X.env)] := by rfl) : ES X tg (.Call (.Name "range" p) [b] [] pos) σ K [] rInt (rng 0 hi) := fun H l _ R q =>
  PI.to (pi_range1 hg hm (paW [b]) hs2) (ea_1 hb (hs2.trans rfl) H l _ fun vs K1 H1 n ⟨w, _, e2, hw, e3⟩ => by
    subst e3; subst e2
    obtain rfl : w = .int hi := hw
    refine ⟨hi, rfl, hz.1, hz.2, q _ K1 H1 n ?_⟩
    have := wk_range (K1 := K1) (H1 := H1) (lo := 0) (hi := hi)
    rw [Int.sub_zero] at this
    exact this)
/-- a text, sign by sign -/
theorem es_str {tg e : Expr} {z : Str} (h : EV X e σ K rStr z) : ES X tg e σ K [] rStr (z.cps.toList.map fun c => (⟨#[c]⟩ : Str)) := fun H l _ R q =>
  PI.to (pi_str (peW e)) (h H l _ fun v K1 H1 n hv => ⟨z, hv, q _ K1 H1 n ⟨_, _, (by rw [List.length_map, Array.length_toList]; exact walk_str), fun _ _ _ => trivial, fun i H' x H'' hi l' k y => by
    obtain ⟨e2, c, e3, e4⟩ := y
    subst e2
    exact ⟨K1, ⟨#[c]⟩, by rw [List.getElem?_map, Array.getElem?_toList, e3]; rfl, .refl l', e4⟩⟩⟩)
/-- the keys of a dict of cells -/
theorem es_keysC {tg e : Expr} {p : Addr} {xs : List (Cell × α)} (h : EV X e σ K rVal (.ref p)) (hd : (rDC r).r K (.ref p) xs) : ES X tg e σ K [p] rCell (xs.map (·.1)) := fun H l hL R q =>
  PI.to (pi_keys (peW e)) (h H l _ fun v K1 H1 n hv => by
    obtain ⟨p', kvs, e1, h1, h2⟩ := hd
    cases e1
    obtain ⟨o, u, hu⟩ := hL p (List.mem_singleton.mpr rfl)
    have hu1 := n.same p _ hu
    have hc : co H1 p = some (.dT kvs) := n.in_ p _ (n.le p _ h1)
    have hu2 : H1 p = some (.frz o (.dT kvs)) := by
      rcases co_dT.mp hc with z | ⟨o', z⟩
      · rw [z] at hu1; cases hu1
      · rw [z] at hu1; cases hu1; exact z
    refine ⟨p, o, hv, .inr ⟨kvs, hu2, q _ K1 H1 n ⟨_, _, (by rw [List.length_map, ← paired_len h2]; exact walk_keysT), fun H' _ k => k p o _ hu2, fun i H' x H'' hi l' k y => ?_⟩⟩⟩
    obtain ⟨e2, key, v, q, e3, e4, e5⟩ := y
    subst e2
    obtain ⟨ka, g1, g2, g3⟩ := paired_get' h2 e3
    refine ⟨upd K1 q (.tup (key.map kV)), ka.1, by rw [List.getElem?_map, g1]; rfl, ?_, q, e4, co_tup.mpr ?_⟩
    · refine ⟨fun a c hac => ?_, fun a c hac => ?_, Same.refl _, fun a o ha1 ha2 ha3 => ?_⟩
      · by_cases z : a = q
        · subst z
          have := l' a c hac
          unfold co at this ⊢
          rw [e5] at this
          rw [upd_same]; exact this
        · unfold co at hac ⊢; rw [upd_ne z]; exact hac
      · by_cases z : a = q
        · subst z; unfold co at hac ⊢; rw [upd_same] at hac; rw [e5]; exact hac
        · unfold co at hac; rw [upd_ne z] at hac; exact l' a c hac
      · rw [upd_ne (fun z => by subst z; rw [e5] at ha1; cases ha1; cases ha2)]; exact ha3
    · rw [upd_same]; simp only at g2; rw [g2]; rfl)

/-! ### locks seen from outside -/
def Dk (u : HO) : Prop := (∃ l, u = .dK l) ∨ (∃ l, u = .dT l) ∨ (∃ l, u = .ext l)
theorem Dk.mut {u : HO} (h : Dk u) : Mut (some u) := by rcases h with ⟨_, rfl⟩ | ⟨_, rfl⟩ | ⟨_, rfl⟩ <;> trivial
theorem Dk.core {u : HO} (h : Dk u) : core u = u := by rcases h with ⟨_, rfl⟩ | ⟨_, rfl⟩ | ⟨_, rfl⟩ <;> rfl
/-- H' is Hu, or Hu with u at d locked -/
def Lck (d : Addr) (u : HO) (m : Option Obj) (Hu H' : Hp) : Prop := match m with
  | none => H' = Hu
  | some od => Hu d = some u ∧ H' = upd Hu d (.frz od u)
theorem Lck.co {d : Addr} {u : HO} {m : Option Obj} {Hu H' : Hp} (hu : Dk u) (h : Lck d u m Hu H') : co H' = co Hu := by
  cases m with
  | none => rw [show H' = Hu from h]
  | some od => obtain ⟨h1, h2⟩ := h; rw [h2]; exact co_lock h1 hu
theorem Lck.at {d p : Addr} {u : HO} {m : Option Obj} {Hu H' : Hp} (h : Lck d u m Hu H') (hp : p ≠ d) : H' p = Hu p := by
  cases m with
  | none => rw [show H' = Hu from h]
  | some od => obtain ⟨h1, h2⟩ := h; rw [h2, upd_ne hp]
theorem upd_comm {H : Hp} {a b : Addr} {o u : HO} (h : a ≠ b) : upd (upd H a o) b u = upd (upd H b u) a o := by
  funext c
  by_cases h1 : c = b
  · subst h1; rw [upd_same, upd_ne (Ne.symm h), upd_same]
  · rw [upd_ne h1]
    by_cases h2 : c = a
    · subst h2; rw [upd_same, upd_same]
    · rw [upd_ne h2, upd_ne h2, upd_ne h1]
theorem Lck.mut {d p : Addr} {u o : HO} {m : Option Obj} {Hu H' : Hp} (h : Lck d u m Hu H') (hp : p ≠ d) : Lck d u m (upd Hu p o) (upd H' p o) := by
  cases m with
  | none => rw [show H' = Hu from h]; rfl
  | some od => obtain ⟨h1, h2⟩ := h; exact ⟨by rw [upd_ne (Ne.symm hp)]; exact h1, by rw [h2, upd_comm (Ne.symm hp)]⟩
theorem upd_self {H : Hp} {a : Addr} {o : HO} (h : H a = some o) : upd H a o = H := by
  funext c
  by_cases e : c = a
  · subst e; rw [upd_same, h]
  · rw [upd_ne e]
theorem Lck.nxt {d : Addr} {u : HO} {m : Option Obj} {Hu H' K1 K2 H'' : Hp} (hu : Dk u) (h : Lck d u m Hu H') (n : Nxt K1 H' K2 H'') : ∃ Hu'', Lck d u m Hu'' H'' ∧ Nxt K1 Hu K2 Hu'' := by
  cases m with
  | none => rw [show H' = Hu from h] at n; exact ⟨H'', rfl, n⟩
  | some od =>
    obtain ⟨h1, h2⟩ := h
    have hd : H' d = some (.frz od u) := by rw [h2, upd_same]
    have hd2 : H'' d = some (.frz od u) := n.same d _ hd
    refine ⟨upd H'' d u, ⟨upd_same, by rw [upd_upd, upd_self hd2]⟩, n.le, n.in_.trans (le_of_co (co_unlock hd2 hu)), fun a o e => ?_, fun a o h3 h4 h5 => ?_⟩
    · by_cases z : a = d
      · subst z; rw [upd_same]; rw [h1] at e; exact e
      · rw [upd_ne z]; exact n.same a o (by rw [h2, upd_ne z]; exact e)
    · by_cases z : a = d
      · subst z
        refine n.out _ _ hd rfl h5
      · exact n.out a o (by rw [h2, upd_ne z]; exact h3) h4 h5
theorem Lck.lk {d : Addr} {u : HO} {m : Option Obj} {Hu H' Hu2 H2 : Hp} (h : Lck d u m Hu H') (h2 : Lck d u m Hu2 H2) (l : Lk Hu Hu2) : Lk H' H2 := by
  cases m with
  | none => rw [show H' = Hu from h, show H2 = Hu2 from h2]; exact l
  | some od =>
    obtain ⟨a1, a2⟩ := h
    obtain ⟨b1, b2⟩ := h2
    intro c o v e
    rw [a2] at e
    rw [b2]
    by_cases z : c = d
    · subst z; rw [upd_same] at e ⊢; exact e
    · rw [upd_ne z] at e ⊢; exact l c o v e

/-! ### for -/
theorem s_for {tg iter : Expr} {body : List Stmt} {pos : Pos} {D : Ends} {g : TG} {xs : List α} (hp : PassesOwn (model X.prog X.w) X.A X.env X.xe) (hc : X.calm = true) (hg : PG X tg g) (l : Le K H) (hs : ES X tg iter σ K [] r xs)
    (h : ∀ K1 H1, Nxt K H K1 H1 → ∃ Pv : Nat → L2.St → Hp → Prop, Pv 0 σ H1 ∧ (∀ i σ' H', Pv i σ' H' → Le K1 H' ∧ Lk H1 H') ∧
      (∀ i a σ' H' x K2 H'', xs[i]? = some a → Pv i σ' H' → Nxt K1 H' K2 H'' → r.r K2 x a → g x σ' H'' fun σ2 H2 => wSs X body { D with nx := Pv (i + 1), ct := Pv (i + 1), bk := D.nx } σ2 H2) ∧ ∀ σ' H', Pv xs.length σ' H' → D.nx σ' H')
    (hf : ∀ x, foldedSetIterable iter X.env x = pure x := by intro _; rfl) : wS X (.For tg iter body [] pos) D σ H :=
  PS.to (ps_for hp hc (piW tg iter) hg (pssW body) hf) (hs H l (fun _ z => nomatch z) _ fun J K1 H1 n ⟨G, Y, w, gG, gY⟩ => by
    obtain ⟨Pv, h0, h1, h2, h3⟩ := h K1 H1 n
    exact for_it w Pv h0 (fun i σ' H' _ p => gG H' (h1 i σ' H' p).1 (h1 i σ' H' p).2) (fun i x σ' H' H'' hi p y => by
      obtain ⟨K2, a, e, n2, hr⟩ := gY i H' x H'' hi (h1 i σ' H' p).1 (h1 i σ' H' p).2 y
      exact h2 i a σ' H' x K2 H'' e p n2 hr) h3)
/-- the ends of a turn while u at d is locked, told by the heap with it unlocked -/
def LckEnds (d : Addr) (u : HO) (m : Option Obj) (N : L2.St → Hp → Prop) (D : Ends) : Ends :=
  ⟨fun σ H => ∃ Hu, Lck d u m Hu H ∧ N σ Hu,
   (match m with | none => D.rt | some od => fun v H => H d = some (.frz od u) ∧ D.rt v (upd H d u)),
   (match m with | none => D.nx | some od => fun σ H => H d = some (.frz od u) ∧ D.nx σ (upd H d u)),
   fun σ H => ∃ Hu, Lck d u m Hu H ∧ N σ Hu⟩
theorem lck_rt {d : Addr} {u : HO} {m : Option Obj} {N : L2.St → Hp → Prop} {D : Ends} {v : V} {Hu H : Hp} (h : Lck d u m Hu H) (q : D.rt v Hu) : (LckEnds d u m N D).rt v H := by
  cases m with
  | none => rw [show H = Hu from h]; exact q
  | some od =>
    obtain ⟨h1, h2⟩ := h
    exact ⟨by rw [h2, upd_same], by rw [h2, upd_upd, upd_self h1]; exact q⟩
theorem s_forD {tg iter : Expr} {body : List Stmt} {pos : Pos} {D : Ends} {g : TG} {xs : List α} {d : Addr} {u : HO} (hp : PassesOwn (model X.prog X.w) X.A X.env X.xe) (hc : X.calm = true) (hg : PG X tg g) (l : Le K H) (hu : Dk u) (hd : co K d = some u) (hs : ES X tg iter σ K [d] r xs)
    (h : ∀ K1 H1 m, Nxt K H K1 H1 → ∃ Pv : Nat → L2.St → Hp → Prop, Pv 0 σ H1 ∧ (∀ i σ' H', Pv i σ' H' → Le K1 H' ∧ Lk H1 H') ∧
      (∀ i a σ' Hu H' x K2 H'', xs[i]? = some a → Pv i σ' Hu → Lck d u m Hu H' → Nxt K1 H' K2 H'' → r.r K2 x a → g x σ' H'' fun σ2 H2 => wSs X body (LckEnds d u m (Pv (i + 1)) D) σ2 H2) ∧ ∀ σ' H', Pv xs.length σ' H' → D.nx σ' H')
    (hf : ∀ x, foldedSetIterable iter X.env x = pure x := by intro _; rfl) : wS X (.For tg iter body [] pos) D σ H := by
  have hdH := l d u hd
  have hcase : (∃ o, H d = some (.frz o u)) ∨ H d = some u := by
    rcases (co_rd hu).mp hdH with z | ⟨o, z⟩
    · exact .inr z
    · exact .inl ⟨o, z⟩
  rcases hcase with ⟨o, ho⟩ | ho
  · refine PS.to (ps_for hp hc (piW tg iter) hg (pssW body) hf) (hs H l (fun e z => ⟨o, u, by rw [List.mem_singleton.mp z]; exact ho⟩) _ fun J K1 H1 n ⟨G, Y, w, gG, gY⟩ => ?_)
    obtain ⟨Pv, h0, h1, h2, h3⟩ := h K1 H1 none n
    refine for_it w (fun i σ' H' => ∃ Hu, Lck d u none Hu H' ∧ Pv i σ' Hu) ⟨H1, rfl, h0⟩ (fun i σ' H' _ ⟨Hu, e, p⟩ => ?_) (fun i x σ' H' H'' hi ⟨Hu, e, p⟩ y => ?_) fun σ' H' ⟨Hu, e, p⟩ => ?_
    · rw [show H' = Hu from e]; exact gG Hu (h1 i σ' Hu p).1 (h1 i σ' Hu p).2
    · have le1 : Le K1 H' := by rw [show H' = Hu from e]; exact (h1 i σ' Hu p).1
      have lk1 : Lk H1 H' := by rw [show H' = Hu from e]; exact (h1 i σ' Hu p).2
      obtain ⟨K2, a, ea, n2, hr⟩ := gY i H' x H'' hi le1 lk1 y
      exact h2 i a σ' Hu H' x K2 H'' ea p e n2 hr
    · rw [show H' = Hu from e]; exact h3 σ' Hu p
  · refine PS.to (ps_lock (ps_for hp hc (piW tg iter) hg (pssW body) hf)) ⟨d, u, ho, hu.mut, fun od => ?_⟩
    have hl : Lck d u (some od) H (upd H d (.frz od u)) := ⟨ho, rfl⟩
    refine hs (upd H d (.frz od u)) (l.trans (le_of_co (co_lock ho hu))) (fun e z => ⟨od, u, by rw [List.mem_singleton.mp z, upd_same]⟩) _ fun J K1 H1 n ⟨G, Y, w, gG, gY⟩ => ?_
    obtain ⟨Hu1, lu1, nu⟩ := hl.nxt hu n
    obtain ⟨Pv, h0, h1, h2, h3⟩ := h K1 Hu1 (some od) nu
    refine for_it w (fun i σ' H' => ∃ Hu, Lck d u (some od) Hu H' ∧ Pv i σ' Hu) ⟨Hu1, lu1, h0⟩ (fun i σ' H' _ ⟨Hu, e, p⟩ => ?_) (fun i x σ' H' H'' hi ⟨Hu, e, p⟩ y => ?_) fun σ' H' ⟨Hu, e, p⟩ => ?_
    · exact gG H' ((h1 i σ' Hu p).1.trans (le_of_co (e.co hu))) (lu1.lk e (h1 i σ' Hu p).2)
    · obtain ⟨K2, a, ea, n2, hr⟩ := gY i H' x H'' hi ((h1 i σ' Hu p).1.trans (le_of_co (e.co hu))) (lu1.lk e (h1 i σ' Hu p).2) y
      exact h2 i a σ' Hu H' x K2 H'' ea p e n2 hr
    · obtain ⟨e1, e2⟩ := e
      exact ⟨by rw [e2, upd_same], by rw [e2, upd_upd, upd_self e1]; exact h3 σ' Hu p⟩

/-! ### list comprehensions -/
/-- an expression, its dicts in L locked -/
def EVL (X : Cx) (e : Expr) (σ : L2.St) (K : Hp) (L : List Addr) {α : Type} (r : Rel α) (a : α) : Prop := ∀ H, Le K H → (∀ d ∈ L, ∃ o u, H d = some (.frz o u)) → ∀ Q : VK, (∀ v K' H', Nxt K H K' H' → r.r K' v a → Q v H') → wE X e σ H Q
theorem ev_lock0 {e : Expr} (h : EVL X e σ K [] r a) : EV X e σ K r a := fun H l Q q => h H l (fun _ z => nomatch z) Q q
theorem ev_lock1 {e : Expr} {d : Addr} {u : HO} (hu : Dk u) (hd : co K d = some u) (h : EVL X e σ K [d] r a) : EV X e σ K r a := fun H l Q q => by
  rcases (co_rd hu).mp (l d u hd) with ho | ⟨o, ho⟩
  · refine PE.to (pe_lock (peW e)) ⟨d, u, ho, hu.mut, fun od => ?_⟩
    have hl : Lck d u (some od) H (upd H d (.frz od u)) := ⟨ho, rfl⟩
    refine h (upd H d (.frz od u)) (l.trans (le_of_co (co_lock ho hu))) (fun e z => ⟨od, u, by rw [List.mem_singleton.mp z, upd_same]⟩) _ fun v K1 H1 n hv => ?_
    obtain ⟨Hu1, ⟨e1, e2⟩, nu⟩ := hl.nxt hu n
    exact ⟨by rw [e2, upd_same], by rw [e2, upd_upd, upd_self e1]; exact q v K1 Hu1 nu hv⟩
  · exact h H l (fun e z => ⟨o, u, by rw [List.mem_singleton.mp z]; exact ho⟩) Q q
/-- the tests of a clause -/
def ETs (X : Cx) (ifs : List Expr) (σ : L2.St) (K : Hp) (b : Bool) : Prop := match ifs with
  | [] => b = true
  | [c] => ET X c σ K b
  | _ => False
abbrev blkX (X : Cx) (scope : Scope) (s : Shared) (H : Hp) (C : Addr) (cl : List (Str × Addr)) (fp : List Addr) : Cx := X.blk s H scope (compEnvC scope cl C X.env) fp
/-- readings of a block's parts, in whatever block -/
def wEB (X : Cx) (scope : Scope) (e : Expr) : TE := fun σ H Q => ∀ s H0 C cl fp, wE (blkX X scope s H0 C cl fp) e σ H Q
def wTs (X : Cx) (ifs : List Expr) : TT := fun σ H Q => ∀ pins s, Inv X pins σ H s →
    wpAny (model X.prog X.w) X.A (forIn ifs true fun c r => if r = true then do let ok ← isTrue c X.env (eval c X.env); pure (ForInStep.yield ok) else pure (ForInStep.yield r)) (TP X pins σ Q) X.xe s
def wTB (X : Cx) (scope : Scope) (ifs : List Expr) : TT := fun σ H Q => ∀ s H0 C cl fp, wTs (blkX X scope s H0 C cl fp) ifs σ H Q
theorem ETs.use {ifs : List Expr} {b : Bool} (h : ETs X ifs σ K b) (l : Le K H) {Q : Bool → Hp → Prop} (q : ∀ H1, Same H H1 → Q b H1) : wTs X ifs σ H Q := fun pins s I => by
  match ifs, h with
  | [], h => obtain rfl : b = true := h; exact pts_nil.run pins s σ H Q I (q H (Same.refl _))
  | [c], h => exact (pts_one (ptW c)).run pins s σ H Q I (h H l Q q)
/-- one turn of a comprehension: the target stored, the tests, the element -/
def TurnD (X : Cx) (scope : Scope) (g : TG) (vs : List Nat) (ifs : List Expr) (elt : Expr) (σ : L2.St) (K : Hp) {α β : Type} (r : Rel α) (rr : Rel β) (xs : List α) (p : α → Bool) (f : α → β) : Prop :=
  ∀ (i : Nat) (a : α) (K1 : Hp) (x : V), xs[i]? = some a → Le K K1 → r.r K1 x a → ∃ σ2 K2, Le K1 K2 ∧ (∀ H1, Le K1 H1 → ∀ Q : L2.St → Hp → Prop, (∀ H2, Nxt K1 H1 K2 H2 → Q σ2 H2) → g x (wipe σ vs) H1 Q) ∧ wipe σ2 vs = wipe σ vs ∧
    ∀ s H0 C cl fp, ETs (blkX X scope s H0 C cl fp) ifs σ2 K2 (p a) ∧ (p a = true → EV (blkX X scope s H0 C cl fp) elt σ2 K2 rr (f a))
theorem paired_snoc {α β : Type} {F : α → β → Prop} : ∀ {l : List α} {m : List β} {a : α} {b : β}, Paired F l m → F a b → Paired F (l ++ [a]) (m ++ [b])
  | _, _, _, _, .nil, h => .cons h .nil
  | _, _, _, _, .cons q t, h => .cons q (paired_snoc t h)
theorem take_snoc {α : Type} : ∀ {xs : List α} {i : Nat} {a : α}, xs[i]? = some a → xs.take (i + 1) = xs.take i ++ [a]
  | [], _, _, h => by simp at h
  | x :: xs, 0, a, h => by simp at h; subst h; simp
  | x :: xs, i + 1, a, h => by
    have := take_snoc (xs := xs) (i := i) (a := a) (by simpa using h)
    simp [this]
theorem evl_lc {elt tg iter : Expr} {ifs : List Expr} {scope : Scope} {own : List (Str × Nat)} {pos : Pos} {g : TG} {L : List Addr} {rr : Rel β} {xs : List α} {p : α → Bool} {f : α → β} (hc : X.calm = true) (hN : X.N.Nodup) (hs : ES X tg iter σ K L r xs) (ok : BlkOk X.N X.env.scope scope own)
    (hg : ∀ s H C cl fp, PG (blkX X scope s H C cl fp) tg g) (hz : xs.length ≤ 1000000) (turn : TurnD X scope g (own.map (·.2)) ifs elt σ K r rr xs p f) (hf : ∀ x, foldedSetIterable iter X.env x = pure x := by intro _; rfl) :
    EVL X (.ListComp elt [⟨tg, iter, ifs, 0⟩] scope pos) σ K L (rLst X.K rr) ((xs.filter p).map f) := fun H l hL Q q => by
  refine PE.to (pe_lc (own := own) (te := wEB X scope elt) (tt := wTB X scope ifs) hc hN (piW tg iter) ok hg (fun s H0 C cl fp => ⟨fun pins s' σ' H' Q' I h => h s H0 C cl fp pins s' I⟩) (fun s H0 C cl fp => ⟨fun pins s' σ' H' Q' I h => h s H0 C cl fp pins s' I⟩) hf) ?_
  refine hs H l hL _ fun J K1 H1 n ⟨G, Y, w, gG, gY⟩ => ?_
  intro D hD
  have hDK : K1 D = none := n.in_.fresh hD
  refine lc_it w (fun i H' => ∃ K' vs, Nxt K1 H1 K' H' ∧ K' D = none ∧ H' D = some (.lst vs) ∧ Paired (rr.r K') vs (((xs.take i).filter p).map f)) ?_ ?_ ?_ ?_
  · exact ⟨K1, [], (Nxt.refl n.in_).mut hD hDK, hDK, upd_same, by simpa using Paired.nil⟩
  · rintro i H' _ ⟨K', vs, n', _⟩
    exact gG H' (n'.le.trans n'.in_) n'.lk
  · rintro i x H' H'' hi ⟨K', vs, n', hK', hD', hp'⟩ y
    obtain ⟨K2, a, ea, n2, hr⟩ := gY i H' x H'' hi (n'.le.trans n'.in_) n'.lk y
    obtain ⟨n2', l2⟩ := n2.wide n'.le n'.in_
    have hlen : vs.length < sizeLine := by
      have e1 := paired_len hp'
      rw [List.length_map] at e1
      have e2 := List.length_filter_le p (xs.take i)
      rw [List.length_take] at e2
      have e3 : (1000000 : Nat) < sizeLine := by decide
      omega
    obtain ⟨σ2, K3, l3, hst, hw, hb⟩ := turn i a (join K' K2) x ea (n.le.trans (n'.le.trans join_l)) (r.mono l2 hr)
    refine hst H'' n2'.in_ _ fun H3 n3 => ⟨hw, fun s H0 C cl fp => (hb s H0 C cl fp).1.use n3.in_ fun H4 s4 => ?_⟩
    have nn : Nxt K' H' K3 H4 := (n2'.trans n3).trans (Nxt.same1 n3.in_ s4)
    have hDn : K3 D = none := nn.out D _ hD' rfl hK'
    have h4D : H4 D = some (.lst vs) := nn.same D _ hD'
    cases e : p a with
    | false =>
      rw [if_neg Bool.false_ne_true]
      refine ⟨K3, vs, n'.trans nn, hDn, h4D, ?_⟩
      rw [take_snoc ea, List.filter_append, List.filter_cons_of_neg (by rw [e]; exact Bool.false_ne_true), List.filter_nil, List.append_nil]
      exact Paired.imp (fun _ _ z => rr.mono nn.le z) hp'
    | true =>
      rw [if_pos rfl]
      intro s H0 C cl fp
      refine (hb s H0 C cl fp).2 e H4 nn.in_ _ fun v K5 H5 n5 hv => ⟨vs, n5.same D _ h4D, hlen, K5, vs ++ [v], ?_, ?_, upd_same, ?_⟩
      · exact (n'.trans (nn.trans n5)).mut hD (n5.out D _ h4D rfl hDn)
      · exact n5.out D _ h4D rfl hDn
      · rw [take_snoc ea, List.filter_append, List.filter_cons_of_pos e, List.filter_nil, List.map_append]
        exact paired_snoc (Paired.imp (fun _ _ z => rr.mono (nn.le.trans n5.le) z) hp') hv
  · rintro H' ⟨K', vs, n', hK', hD', hp'⟩
    rw [List.take_length] at hp'
    exact q _ _ _ (n.trans (n'.pub hD hK' hD')) ⟨D, vs, rfl, SqL.of upd_same, Paired.imp (fun _ _ z => rr.mono (le_new' hK') z) hp'⟩
end
end SN
end TKC

section TKD
set_option Elab.async false
set_option linter.all false
set_option maxRecDepth 100000
set_option maxHeartbeats 4000017
/-! KD: comprehensions of any number of clauses, over lists and dicts of cells, from the model's own turn. -/
namespace SN
open PySem PySem.Spec PyProof.Rows L2

/-- one turn of a clause: its target stored, its tests, then act -/
def cTurn (g : Comprehension) (act : Sem Fin → Sem Fin) (nxt : Code) (it : Value) (env : Env) : Sem Fin := do
  standAt g.iter.pos
  match ← pyNext it with
  | none => pure (.done .next)
  | some v =>
    letOwnedTupleGo g.target it v
    assign g.target env v
    let mut good := true
    for c in g.ifs do
      if good then good ← isTrue c env (eval c env)
    if good then act (again nxt) else again nxt
/-- what an inner clause does -/
def inAct (e : Expr) (k : Nat) (g : Comprehension) (acc : Value) (env : Env) (nx : Sem Fin) : Sem Fin := do
  let x ← eval g.iter env
  standAt g.iter.pos
  let y ← foldedSetIterable g.iter env x
  let _ ← runOwn (.compStart e k (← holding [y] (pyIter y)) acc env) env
  nx
def lsAct (elt : Expr) (acc : Value) (env : Env) (nx : Sem Fin) : Sem Fin := (do let _ ← call (.builtin "list.append") [acc, ← eval elt env] : Sem Unit) >>= fun _ => nx
def dcAct (k v : Expr) (d : Addr) (env : Env) (nx : Sem Fin) : Sem Fin := (do
  let a ← eval k env
  let b ← holding [a] (eval v env)
  standAt { k.pos with endLine := v.pos.endLine, endCol := v.pos.endCol }
  holding [a, b] (dictSet d a b) : Sem Unit) >>= fun _ => nx
/-- it runs, nothing is raised, and what follows may count on N -/
def Ak (prog : Program) (w : World) (A : Around) (act : Sem Fin → Sem Fin) (N : Shared → Prop) (s : Shared) : Prop :=
  ∀ (k : Sem Fin) (Q : Fin → Shared → Prop) (E : Value → Shared → Prop), (∀ s', N s' → wpAny (model prog w) A k Q E s') → wpAny (model prog w) A (act k) Q E s
section
variable {elt kx vx : Expr} {g0 g1 g2 : Comprehension} {t0 i0 t1 i1 t2 i2 : Expr} {f0 f1 f2 : List Expr} {scope : Scope} {pos : Pos} {it acc : Value} {d : Addr} {env : Env}
theorem turn_l1 : compTurn (.ListComp elt [⟨t0, i0, f0, 0⟩] scope pos) 0 it acc env = cTurn ⟨t0, i0, f0, 0⟩ (lsAct elt acc env) (.compLoop (.ListComp elt [⟨t0, i0, f0, 0⟩] scope pos) 0 it acc env) it env := by rfl
theorem turn_l2o : compTurn (.ListComp elt [⟨t0, i0, f0, 0⟩, ⟨t1, i1, f1, 0⟩] scope pos) 0 it acc env = cTurn ⟨t0, i0, f0, 0⟩ (inAct (.ListComp elt [⟨t0, i0, f0, 0⟩, ⟨t1, i1, f1, 0⟩] scope pos) 1 ⟨t1, i1, f1, 0⟩ acc env) (.compLoop (.ListComp elt [⟨t0, i0, f0, 0⟩, ⟨t1, i1, f1, 0⟩] scope pos) 0 it acc env) it env := by rfl
theorem turn_l2i : compTurn (.ListComp elt [⟨t0, i0, f0, 0⟩, ⟨t1, i1, f1, 0⟩] scope pos) 1 it acc env = cTurn ⟨t1, i1, f1, 0⟩ (lsAct elt acc env) (.compLoop (.ListComp elt [⟨t0, i0, f0, 0⟩, ⟨t1, i1, f1, 0⟩] scope pos) 1 it acc env) it env := by rfl
theorem turn_l3o : compTurn (.ListComp elt [⟨t0, i0, f0, 0⟩, ⟨t1, i1, f1, 0⟩, ⟨t2, i2, f2, 0⟩] scope pos) 0 it acc env = cTurn ⟨t0, i0, f0, 0⟩ (inAct (.ListComp elt [⟨t0, i0, f0, 0⟩, ⟨t1, i1, f1, 0⟩, ⟨t2, i2, f2, 0⟩] scope pos) 1 ⟨t1, i1, f1, 0⟩ acc env) (.compLoop (.ListComp elt [⟨t0, i0, f0, 0⟩, ⟨t1, i1, f1, 0⟩, ⟨t2, i2, f2, 0⟩] scope pos) 0 it acc env) it env := by rfl
theorem turn_l3m : compTurn (.ListComp elt [⟨t0, i0, f0, 0⟩, ⟨t1, i1, f1, 0⟩, ⟨t2, i2, f2, 0⟩] scope pos) 1 it acc env = cTurn ⟨t1, i1, f1, 0⟩ (inAct (.ListComp elt [⟨t0, i0, f0, 0⟩, ⟨t1, i1, f1, 0⟩, ⟨t2, i2, f2, 0⟩] scope pos) 2 ⟨t2, i2, f2, 0⟩ acc env) (.compLoop (.ListComp elt [⟨t0, i0, f0, 0⟩, ⟨t1, i1, f1, 0⟩, ⟨t2, i2, f2, 0⟩] scope pos) 1 it acc env) it env := by rfl
theorem turn_l3i : compTurn (.ListComp elt [⟨t0, i0, f0, 0⟩, ⟨t1, i1, f1, 0⟩, ⟨t2, i2, f2, 0⟩] scope pos) 2 it acc env = cTurn ⟨t2, i2, f2, 0⟩ (lsAct elt acc env) (.compLoop (.ListComp elt [⟨t0, i0, f0, 0⟩, ⟨t1, i1, f1, 0⟩, ⟨t2, i2, f2, 0⟩] scope pos) 2 it acc env) it env := by rfl
theorem turn_d1 : compTurn (.DictComp kx vx [⟨t0, i0, f0, 0⟩] scope pos) 0 it (.ref d) env = cTurn ⟨t0, i0, f0, 0⟩ (dcAct kx vx d env) (.compLoop (.DictComp kx vx [⟨t0, i0, f0, 0⟩] scope pos) 0 it (.ref d) env) it env := by rfl
end

/-- the codes of a comprehension, which a written one has by rfl -/
structure Cmp (prog : Program) (w : World) (A : Around) (e : Expr) (acc : Value) (env : Env) : Prop where
  dl : ∀ k it, (model prog w).den (.compLoop e k it acc env) = (compTurn e k it acc env).onRaise (fun x => do noteFrame x env; theTreesLotGoes x)
  ds : ∀ k it, (model prog w).den (.compStart e k it acc env) = (compStart e k it acc env).onRaise (fun x => do noteFrame x env; standAt theWindowsPlace)
  ul : ∀ k it, A.under (.compLoop e k it acc env) = A
  us : ∀ k it, A.under (.compStart e k it acc env) = A
  ql : ∀ k it, (Code.compLoop e k it acc env).quiet = true
theorem cmp_l {prog : Program} {w : World} {A : Around} {elt : Expr} {gs : List Comprehension} {scope : Scope} {pos : Pos} {acc : Value} {env : Env} : Cmp prog w A (.ListComp elt gs scope pos) acc env := ⟨fun _ _ => rfl, fun _ _ => rfl, fun _ _ => rfl, fun _ _ => rfl, fun _ _ => rfl⟩
theorem cmp_d {prog : Program} {w : World} {A : Around} {k v : Expr} {gs : List Comprehension} {scope : Scope} {pos : Pos} {acc : Value} {env : Env} : Cmp prog w A (.DictComp k v gs scope pos) acc env := ⟨fun _ _ => rfl, fun _ _ => rfl, fun _ _ => rfl, fun _ _ => rfl, fun _ _ => rfl⟩
/-- the loop of a clause, by an invariant over the state; nothing is raised -/
theorem loop_c {prog : Program} {w : World} {A : Around} {R : Result → Shared → Prop} {s : Shared} {e : Expr} {k : Nat} {g : Comprehension} {act : Sem Fin → Sem Fin} {it acc : Value} {env : Env} (C : Cmp prog w A e acc env) (I : Nat → Shared → Prop)
    (hsh : compTurn e k it acc env = cTurn g act (.compLoop e k it acc env) it env)
    (turn : ∀ n s, I n s → wpAny (model prog w) A (pyNext it) (fun r s1 => match r with
      | none => R (.ok .next) s1
      | some v => wpAny (model prog w) A (letOwnedTupleGo g.target it v) (fun _ s2 => wpAny (model prog w) A (assign g.target env v) (fun _ s3 =>
          wpAny (model prog w) A (forIn g.ifs true fun c r => if r = true then do let ok ← isTrue c env (eval c env); pure (ForInStep.yield ok) else pure (ForInStep.yield r)) (fun ok s4 =>
            if ok = true then Ak prog w A act (fun s5 => ∃ m, m < n ∧ I m s5) s4 else ∃ m, m < n ∧ I m s4) (fun _ _ => False) s3) (fun _ _ => False) s2) (fun _ _ => False) s1) (fun _ _ => False) s)
    (n : Nat) (h : I n s) : codeAny (model prog w) A (.compLoop e k it acc env) R s := by
  refine codeAny_loop (C.ql k it) I (fun n s hI => ?_) n h
  rw [C.ul, C.dl]
  refine wpAny_noted ?_
  rw [hsh]
  unfold cTurn
  have F : ∀ {α : Type} {t : Sem α} {Q Q' : α → Shared → Prop} {E : Value → Shared → Prop} {s : Shared}, wpAny (model prog w) A t Q (fun _ _ => False) s → (∀ a s, Q a s → Q' a s) → wpAny (model prog w) A t Q' E s := fun h hQ => wpAny_mono h hQ fun _ _ z => False.elim z
  refine wpAny_bind (wpAny_standAt (wpAny_bind (F (turn n s hI) fun r s1 h1 => ?_)))
  cases r with
  | none => exact wpAny_pure h1
  | some v =>
    refine wpAny_bind (F h1 fun _ s2 h2 => wpAny_bind (F h2 fun _ s3 h3 => wpAny_bind (F h3 fun ok s4 h4 => ?_)))
    cases ok with
    | false => exact wpAny_pure ⟨rfl, h4⟩
    | true => exact h4 _ _ _ fun s5 h5 => wpAny_pure ⟨rfl, h5⟩
/-- a clause begins -/
theorem start_c {prog : Program} {w : World} {A : Around} {R : Result → Shared → Prop} {s : Shared} {e : Expr} {k : Nat} {g : Comprehension} {it acc : Value} {env : Env} (C : Cmp prog w A e acc env) (hcl : (clausesOf e)[k]? = some g) (ha : g.is_async = 0)
    (h0 : codeAny (model prog w) A (.compLoop e k it acc env) R s)
    (h : wpAny (model prog w) A (pyIter it) (fun it' s' => codeAny (model prog w) A (.compLoop e k it' acc env) R s') (fun _ _ => False) s) : codeAny (model prog w) A (.compStart e k it acc env) R s := by
  refine codeAny_of_tree ?_
  rw [C.us, C.ds]
  refine wpAny_notedAt ?_
  have h' : wpAny (model prog w) A (pyIter it) (fun it' s' => codeAny (model prog w) A (.compLoop e k it' acc env) R s') (notedBy (model prog w) A env fun x s' => R (.error x) s') s := wpAny_mono h (fun _ _ z => z) fun _ _ z => z.elim
  unfold compStart
  have e1 : ((clausesOf e)[k]?).elim false (·.is_async != 0) = false := by rw [hcl]; simp [ha]
  rw [e1]
  simp only [Bool.false_eq_true, if_false]
  rw [hcl]
  show wpAny _ _ (ask >>= _) _ _ s
  refine wpAny_bind (wpAny_askSetting (wpAny_ite ?_))
  split
  · first
      | exact wpAny_bind (wpAny_pure (wpAny_pure (And.intro (C.ql _ _) h0)))
      | exact wpAny_pure (And.intro (C.ql _ _) h0)
  · first
      | exact wpAny_bind (wpAny_rule (wpAny_bind (wpAny_standAt (wpAny_bind (wpAny_mono h' (fun it' s' h' => wpAny_pure (And.intro (C.ql _ _) h')) fun _ _ x => x)))))
      | (refine wpAny_bind (wpAny_rule ?_); show wpAny _ _ (standAt g.iter.pos >>= _) _ _ s; exact wpAny_bind (wpAny_standAt (wpAny_bind (wpAny_mono h' (fun it' s' h' => wpAny_pure (And.intro (C.ql _ _) h')) fun _ _ x => x))))

theorem wipe_get {σ : L2.St} {j : Nat} : ∀ {vs : List Nat}, (wipe σ vs)[j]? = if j ∈ vs then (σ[j]?).map (fun _ => none) else σ[j]?
  | [] => by simp [wipe]
  | v :: vs => by
    unfold wipe
    rw [List.getElem?_set]
    by_cases e : v = j
    · subst e
      by_cases h : v < σ.length
      · simp [wipe_length, h]
      · simp [wipe_length, h]
    · rw [if_neg e, wipe_get (vs := vs)]
      simp [Ne.symm e, List.mem_cons, show ¬ j = v from fun z => e z.symm]
theorem wipe_wipe (σ : L2.St) (vs : List Nat) : wipe (wipe σ vs) vs = wipe σ vs := by
  apply List.ext_getElem?
  intro j
  rw [wipe_get, wipe_get]
  by_cases h : j ∈ vs
  · simp [h, Option.map_map]; rfl
  · simp [h]

/-! ### over the layer -/
structure PAk (X : Cx) (act : Sem Fin → Sem Fin) (vs : List Nat) (t : L2.St → Hp → (Hp → Prop) → Prop) : Prop where
  run : ∀ (pins : List (Addr × Obj)) (s : Shared) (σ : L2.St) (H : Hp) (N : Hp → Prop), Inv X pins σ H s → t σ H N → Ak X.prog X.w X.A act (fun s' => ∃ H', Inv X pins (wipe σ vs) H' s' ∧ N H') s
/-- the loop of a clause: from the turn's wish to the clause's end -/
def ClW (J : It) (tg : TG) (tt : TT) (ta : L2.St → Hp → (Hp → Prop) → Prop) (vs : List Nat) (σ : L2.St) (Nd : Hp → Prop) (W : Nat → Nat → Hp → Prop) : Prop := ∀ i m H, W i m H →
  (J.stop i H ∧ Nd H) ∨ (J.go i H ∧ ∃ Nx : Hp → Prop, (∀ H', Nx H' → ∃ m', m' < m ∧ W (i + 1) m' H') ∧ ∀ x H', J.yld i H x H' → tg x (wipe σ vs) H' fun σ2 H2 => wipe σ2 vs = wipe σ vs ∧ tt σ2 H2 fun b H3 => if b = true then ta σ2 H3 Nx else Nx H3)
section
variable {X : Cx} {pins : List (Addr × Obj)} {σ : L2.St} {H : Hp} {s : Shared}
theorem thn0 {α : Type} {t : Sem α} {Q Q' : α → Shared → Prop} {A : Around} (hxe : X.xe = fun _ _ => False) {E : Value → Shared → Prop} {s : Shared} (h : wpAny (model X.prog X.w) A t Q X.xe s) (hQ : ∀ a s, Q a s → Q' a s) : wpAny (model X.prog X.w) A t Q' E s := wpAny_mono h hQ fun _ _ z => by rw [hxe] at z; exact z.elim
theorem lvl {e : Expr} {k : Nat} {g : Comprehension} {act : Sem Fin → Sem Fin} {acc : Value} {it : Addr} {J : It} {fp : List Addr} {tn : Nat → Heap → Prop} {tg : TG} {tt : TT} {ta : L2.St → Hp → (Hp → Prop) → Prop} {vs vsIn : List Nat} {Nd : Hp → Prop} {W : Nat → Nat → Hp → Prop} {m0 : Nat}
    (hxe : X.xe = fun _ _ => False) (hc : X.calm = true) (C : Cmp X.prog X.w X.A e acc X.env) (hsh : compTurn e k (.ref it) acc X.env = cTurn g act (.compLoop e k (.ref it) acc X.env) (.ref it) X.env) (T : Turn X.prog X.w X.K g.target J fp it tn)
    (pg : PG X g.target tg) (pt : PTs X g.ifs tt) (pa : PAk X act vsIn ta) (hv : ∀ i ∈ vsIn, i ∈ vs) (hW : ClW J tg tt ta vs σ Nd W) (I : Inv X pins σ H s) (st : tn 0 s.heap) (hfp : ∀ b ∈ fp, FpOk X pins H b) (w0 : W 0 m0 H) :
    codeAny (model X.prog X.w) X.A (.compLoop e k (.ref it) acc X.env) (fun r s' => match r with
      | .ok _ => ∃ H', Inv X pins (wipe σ vs) H' s' ∧ Nd H'
      | .error _ => False) s := by
  have stat : ∀ {H' : Hp}, (∀ b ∈ fp, H' b = none) → ∀ b ∈ fp, FpOk X pins H' b := fun hn b hb => ⟨hn b hb, (hfp b hb).2⟩
  refine loop_c C (fun n s' => ∃ i H', Inv X pins (wipe σ vs) H' s' ∧ tn i s'.heap ∧ (∀ b ∈ fp, H' b = none) ∧ W i n H') hsh ?_ m0 ⟨0, H, I.weak (wipe_length _ _) (fun j v e => (wipe_some e).1), st, fun b hb => (hfp b hb).1, w0⟩
  rintro n s1 ⟨i, H1, I1, st1, f1, w1⟩
  rcases hW i n H1 w1 with ⟨stop, nd⟩ | ⟨go, Nx, hNx, step⟩
  · refine thnF (T.done X rfl rfl rfl hc i pins s1 (wipe σ vs) H1 (fun _ _ => False) I1 (stat f1) st1 stop) fun r s2 ⟨hr, I2⟩ => ?_
    subst hr
    exact ⟨H1, I2, nd⟩
  · refine thnF (T.item X rfl rfl rfl hc i pins s1 (wipe σ vs) H1 (fun _ _ => False) I1 (stat f1) st1 go) fun r s2 ⟨u, hr, h2⟩ => ?_
    subst hr
    refine thnF h2 fun _ s3 ⟨x, H3, I3, r3, y3, st3, f3⟩ => ?_
    have J3 := I3.pinned (stat f3) (T.obj _ _ st3)
    refine thn0 hxe (pg.run _ s3 (wipe σ vs) H3 x u _ J3 r3 (step x H3 y3)) fun _ s4 ⟨σ4, H4, I4, hw4, q4⟩ => ?_
    refine thn0 hxe (pt.run _ s4 σ4 H4 _ I4 q4) fun b s5 ⟨H5, I5, q5⟩ => ?_
    have fin : ∀ {s' : Shared} {σ' : L2.St} {H' : Hp}, Inv X (pins ++ pinsAt fp s3.heap) σ' H' s' → σ'.length = (wipe σ vs).length → (∀ (j : Nat) v, (wipe σ vs)[j]? = some (some v) → σ'[j]? = some (some v)) → Nx H' →
        ∃ m, m < n ∧ ∃ i H', Inv X pins (wipe σ vs) H' s' ∧ tn i s'.heap ∧ (∀ b ∈ fp, H' b = none) ∧ W i m H' := fun {s' σ' H'} I' hl hk nx => by
      obtain ⟨m', hm, w'⟩ := hNx H' nx
      have pin' : ∀ b ∈ fp, ∀ o, s3.heap.get? b = some o → s'.heap.get? b = some o ∧ H' b = none := fun b hb o e =>
        let z := I'.pin (b, o) (List.mem_append_right _ (List.mem_append_right _ (mem_pinsAt hb e)))
        ⟨z.1, z.2.1⟩
      refine ⟨m', hm, i + 1, H', I'.unpinned.weak hl.symm hk, T.keep _ _ _ st3 fun b hb o e => (pin' b hb o e).1, fun b hb => ?_, w'⟩
      obtain ⟨o, e, _⟩ := T.obj _ _ st3 b hb
      exact (pin' b hb o e).2
    cases b with
    | false =>
      simp only [Bool.false_eq_true, if_false] at q5 ⊢
      exact fin I5 (by rw [← hw4, wipe_length]) (fun j v e => by rw [← hw4] at e; exact (wipe_some e).1) q5
    | true =>
      simp only [if_true] at q5 ⊢
      intro kk Q E hk
      refine pa.run _ s5 σ4 H5 Nx I5 q5 kk Q E fun s6 ⟨H6, I6, nx⟩ => hk s6 (fin I6 (by rw [wipe_length, ← hw4, wipe_length]) (fun j v e => ?_) nx)
      rw [← hw4] at e
      obtain ⟨e1, e2⟩ := wipe_some e
      rw [wipe_out fun z => e2 (hv j z)]
      exact e1
/-- the element is put on the list -/
theorem ak_list {elt : Expr} {te : TE} {D : Addr} (hxe : X.xe = fun _ _ => False) (he : PE X elt te) :
    PAk X (lsAct elt (.ref D) X.env) [] (fun σ H N => te σ H fun y H4 => ∃ a, H4 D = some (.lst a) ∧ a.length < sizeLine ∧ N (upd H4 D (.lst (a ++ [y])))) := by
  refine ⟨fun pins s σ H N I h k Q E hk => ?_⟩
  unfold lsAct
  refine wpAny_bind (wpAny_bind (thn0 hxe (he.run pins s σ H _ I h) fun x s1 ⟨y, H1, I1, r1, a, hD, hz, n⟩ => ?_))
  exact wpAny_bind (app_ok I1 hD hz r1 fun s2 I2 => wpAny_pure (hk s2 ⟨_, I2, n⟩))
/-- an inner clause -/
theorem ak_in {e : Expr} {k : Nat} {g : Comprehension} {act : Sem Fin → Sem Fin} {acc : Value} {wi : TI} {tg : TG} {tt : TT} {ta : L2.St → Hp → (Hp → Prop) → Prop} {vs vsIn : List Nat}
    (hxe : X.xe = fun _ _ => False) (hc : X.calm = true) (C : Cmp X.prog X.w X.A e acc X.env) (hcl : (clausesOf e)[k]? = some g) (hga : g.is_async = 0) (hsh : ∀ it, compTurn e k it acc X.env = cTurn g act (.compLoop e k it acc X.env) it X.env)
    (hs : ∀ x, foldedSetIterable g.iter X.env x = pure x) (hi : PI X g.target g.iter wi) (pg : PG X g.target tg) (pt : PTs X g.ifs tt) (pa : PAk X act vsIn ta) (hv : ∀ i ∈ vsIn, i ∈ vs) :
    PAk X (inAct e k g acc X.env) vs (fun σ H N => wi σ H fun J H1 => ∃ W : Nat → Nat → Hp → Prop, (∃ m, W 0 m H1) ∧ ClW J tg tt ta vs σ N W) := by
  refine ⟨fun pins s σ H N I h kk Q E hk => ?_⟩
  unfold inAct
  refine wpAny_bind (thn0 hxe (hi.run pins s σ H _ I h) fun xv s1 h1 => wpAny_bind (wpAny_standAt (wpAny_bind (wpAny_of_eq (hs xv) (wpAny_bind (wpAny_holding (thn0 hxe h1 fun itv s2 h2 => ?_)))))))
  obtain ⟨it, fp, tn, J, H2, e2, I2, T, st2, f2, W, ⟨m0, w0⟩, hW⟩ := h2
  subst e2
  refine wpAny_bind (wpAny_runOwn ?_)
  rw [Around.mark_none]
  have loop := lvl hxe hc C (hsh (.ref it)) T pg pt pa hv hW I2 st2 f2 w0
  refine codeAny_mono (start_c C hcl hga loop (T.self X.A 0 _ _ _ st2 loop)) fun r s' hr => ?_
  cases r with
  | ok f => exact hk s' hr
  | error e => exact hr.elim
/-- a new thing that is to be filled -/
structure NewAcc (X : Cx) (newAcc : Sem Value) (o0 : Addr → HO) : Prop where
  run : ∀ (pins : List (Addr × Obj)) (s : Shared) (σ : L2.St) (H : Hp) (Q : Value → Shared → Prop) (E : Value → Shared → Prop), Inv X pins σ H s →
    (∀ D s', H D = none → s.heap.objs.size ≤ D → Inv X pins σ (upd H D (o0 D)) s' → (∀ b o, s.heap.get? b = some o → s'.heap.get? b = some o) → Q (.ref D) s') → wpAny (model X.prog X.w) X.A newAcc Q E s
theorem na_list : NewAcc X (newList []) (fun _ => .lst []) := ⟨fun pins s σ H Q E I h => by
  refine wpAny_newObj_type (h s.heap.objs.size _ (I.hok.fresh (Nat.le_refl _)) (Nat.le_refl _) ?_ fun b o e => Heap.get?_push_of_some _ e) (by show 0 ≤ sizeLine; decide)
  exact I.laid (t' := s.toks) (fun b o e => Heap.get?_push_of_some _ e) (Nat.le_refl _) ⟨Nat.zero_le _, [], 0, .nil, Heap.get?_push_size _ rfl⟩⟩
theorem na_dT : NewAcc X newDict (fun _ => .dT []) := ⟨fun pins s σ H Q E I h => by
  refine wpAny_newObj_type (h s.heap.objs.size _ (I.hok.fresh (Nat.le_refl _)) (Nat.le_refl _) ?_ fun b o e => Heap.get?_push_of_some _ e)
  exact I.laid (t' := s.toks) (fun b o e => Heap.get?_push_of_some _ e) (Nat.le_refl _) (dt_empty s.heap I.big)⟩
theorem na_dK : NewAcc X newDict (fun _ => .dK []) := ⟨fun pins s σ H Q E I h => by
  refine wpAny_newObj_type (h s.heap.objs.size _ (I.hok.fresh (Nat.le_refl _)) (Nat.le_refl _) ?_ fun b o e => Heap.get?_push_of_some _ e)
  exact I.laid (t' := s.toks) (fun b o e => Heap.get?_push_of_some _ e) (Nat.le_refl _) (dk_empty s.heap I.big)⟩
/-- what a whole comprehension asks -/
def tCo (wi : TI) (tg : TG) (tt : TT) (ta : Addr → L2.St → Hp → (Hp → Prop) → Prop) (vs : List Nat) (o0 : Addr → HO) : TE := fun σ H Q => wi σ H fun J H1 => ∀ D, H1 D = none → ∃ W : Nat → Nat → Hp → Prop, (∃ m, W 0 m (upd H1 D (o0 D))) ∧ ClW J tg tt (ta D) vs σ (Q (.ref D)) W
theorem co_core {e0 : Expr} {g : Comprehension} {gs : List Comprehension} {scope : Scope} {own : List (Str × Nat)} {pos' : Pos} {newAcc : Sem Value} {o0 : Addr → HO} {act : Addr → Env → Sem Fin → Sem Fin} {wi : TI} {tg : TG} {tt : TT} {ta : Addr → L2.St → Hp → (Hp → Prop) → Prop} {vsIn : List Nat}
    {use : Option (Value → Sem Unit)} {Q : VK} {Qf : Value → Shared → Prop}
    (hc : X.calm = true) (hN : X.N.Nodup) (hcl : clausesOf e0 = g :: gs) (hga : g.is_async = 0) (C : ∀ D env, Cmp X.prog X.w X.A e0 (.ref D) env) (hsh : ∀ it D env, compTurn e0 0 it (.ref D) env = cTurn g (act D env) (.compLoop e0 0 it (.ref D) env) it env) (na : NewAcc X newAcc o0)
    (hi : PI X g.target g.iter wi) (ok : BlkOk X.N X.env.scope scope own) (pg : ∀ s H C cl fp, PG (blkX X scope s H C cl fp) g.target tg) (pt : ∀ s H C cl fp, PTs (blkX X scope s H C cl fp) g.ifs tt)
    (pa : ∀ D s H C cl fp, PAk (blkX X scope s H C cl fp) (act D (compEnvC scope cl C X.env)) vsIn (ta D)) (hv : ∀ i ∈ vsIn, i ∈ own.map (·.2)) (hs : ∀ x, foldedSetIterable g.iter X.env x = pure x) (I : Inv X pins σ H s)
    (h : tCo wi tg tt ta (own.map (·.2)) o0 σ H Q)
    (hRR : ∀ D C s' m H', Inv X pins σ H' s' → Q (.ref D) H' → s'.heap.Ns C m → FpOk X pins H' C → compPost (model X.prog X.w) X.A X.xe use Qf (.ref D) C (.ok .next) s') :
    wpAny (model X.prog X.w) X.A (comprehension e0 scope X.env pos' newAcc false (eval g.iter X.env) use) Qf X.xe s := by
  have hfree : ∀ y ∈ scope.names, y.2 = .free → ∃ c, X.env.cells.lookup y.1 = some c := fun y hy e => (ok.free y hy e).elim (fun k => I.ok.has _ (.inl k)) fun k => I.ok.has _ (.inr k)
  refine wpAny_comprehension_free (use := use) hcl hs (closure_ok hfree) ok.kind (fun y hy e => by rw [ok.uniq y hy, e]) (thn (hi.run pins s σ H _ I h) fun xv s1 hx => thn hx fun itv s2 h2 => ?_)
  obtain ⟨it, fp, tn, J, H2, e, I2, T, st2, f2, q⟩ := h2
  subst e
  refine na.run pins s2 σ H2 _ _ I2 fun D s3 hDn hDs I3 keep3 => newEnv_comp ?_
  obtain ⟨W, ⟨m0, w0⟩, hW⟩ := q D hDn
  have sz2 : ∀ b ∈ fp, b < s2.heap.objs.size := fun b hb => let ⟨o, e, _⟩ := T.obj _ _ st2 b hb; Heap.lt_size e
  have f3 : ∀ b ∈ fp, FpOk X pins (upd H2 D (o0 D)) b ∧ b < s3.heap.objs.size := fun b hb => by
    have hlt := sz2 b hb
    refine ⟨⟨?_, (f2 b hb).2⟩, let ⟨o, e, _⟩ := T.obj _ _ st2 b hb; Heap.lt_size (keep3 b o e)⟩
    rw [upd_ne (Nat.ne_of_lt (Nat.lt_of_lt_of_le hlt hDs))]
    exact (f2 b hb).1
  have st3 : tn 0 s3.heap := T.keep _ _ _ st2 fun b _ o e => keep3 b o e
  have I4 := block_start I3 ok hN f3
  have st4 : tn 0 (pushCells (s3.heap.push { cls := .type "dict", data := .dict #[] }) scope.names) := T.keep _ _ _ st3 fun b _ o e => pushCells_keeps _ _ _ _ (Heap.get?_push_of_some _ e)
  have fb : ∀ b ∈ fp, FpOk (blkX X scope s3 (upd H2 D (o0 D)) s3.heap.objs.size (cellsFrom (s3.heap.objs.size + 1) scope.names (cloFrom X.env.cells scope.names [])) fp) [] (upd H2 D (o0 D)) b := fun b hb =>
    ⟨(f3 b hb).1.1, (I4.ok.exf b hb).1, I4.ok.exfs b hb, .inl hb, fun x c e => (I4.ok.exf b hb).2 x c e, fun p hp => absurd (show p ∈ ([] : List (Addr × Obj)) ++ [] from hp) (by simp)⟩
  have loop := lvl (X := blkX X scope s3 (upd H2 D (o0 D)) s3.heap.objs.size (cellsFrom (s3.heap.objs.size + 1) scope.names (cloFrom X.env.cells scope.names [])) fp) (e := e0) (k := 0) (acc := .ref D) rfl hc (C D _) (hsh (.ref it) D _) T (pg _ _ _ _ _) (pt _ _ _ _ _) (pa D _ _ _ _ _) hv
    (show ClW J tg tt (ta D) (own.map (·.2)) (wipe σ (own.map (·.2))) (Q (.ref D)) W from fun i m H w => by
      have e : wipe (wipe σ (own.map (·.2))) (own.map (·.2)) = wipe σ (own.map (·.2)) := wipe_wipe σ _
      rw [e]
      exact hW i m H w) I4 st4 fb w0
  refine codeAny_mono (start_c (C D _) (by rw [hcl]; rfl) hga loop (T.self X.A 0 _ _ _ st4 loop)) fun r s' hr => ?_
  cases r with
  | error e => exact hr.elim
  | ok f =>
    obtain ⟨H6, I6, qq⟩ := hr
    have I7 : Inv X pins σ H6 s' := I3.call' (ch := fp) I6.os I6.base I6.hok I6.bare fun b hb => ⟨(f3 b hb).1.2.2.2.1, (f3 b hb).1.2.1, (f3 b hb).1.2.2.2.2.1, (f3 b hb).1.2.2.2.2.2⟩
    obtain ⟨m, hn, _⟩ := id I6.loc
    have nC : H6 s3.heap.objs.size = none := I6.free
    have z := hRR D s3.heap.objs.size s' m H6 I7 qq hn (I3.fpOk (Nat.le_refl _) nC)
    unfold compPost at z ⊢
    cases use <;> exact z
end
end SN
end TKD

section TQE
set_option Elab.async false
set_option linter.all false
set_option maxRecDepth 100000
set_option maxHeartbeats 4000017
/-! KE: comprehensions by data: what is filled (Fill), the action of a clause (AkD), value form and assigned form. -/
namespace SN
open PySem PySem.Spec PyProof.Rows L2

/-! ### a heap without one place -/
def era (H : Hp) (D : Addr) : Hp := fun a => if a = D then none else H a
theorem era_self {H : Hp} {D : Addr} : era H D D = none := if_pos rfl
theorem era_ne {H : Hp} {D a : Addr} (h : a ≠ D) : era H D a = H a := if_neg h
theorem era_none {H : Hp} {D : Addr} (h : H D = none) : era H D = H := funext fun a => by
  by_cases e : a = D
  · subst e; rw [era_self, h]
  · rw [era_ne e]
theorem era_upd {H : Hp} {D : Addr} {o : HO} : era (upd H D o) D = era H D := funext fun a => by
  by_cases e : a = D
  · subst e; rw [era_self, era_self]
  · rw [era_ne e, era_ne e, upd_ne e]
theorem upd_era {H : Hp} {D : Addr} {o : HO} (h : H D = some o) : upd (era H D) D o = H := funext fun a => by
  by_cases e : a = D
  · subst e; rw [upd_same, h]
  · rw [upd_ne e, era_ne e]
theorem era_le {K H : Hp} {D : Addr} (l : Le K (era H D)) : Le K H := fun a c h => by
  have := l a c h
  unfold co at this ⊢
  by_cases e : a = D
  · subst e; rw [era_self] at this; cases this
  · rw [era_ne e] at this; exact this
theorem le_era {K H : Hp} {D : Addr} (l : Le K H) (h : K D = none) : Le K (era H D) := fun a c q => by
  by_cases e : a = D
  · subst e; rw [co_none.mpr h] at q; cases q
  · have := l a c q
    unfold co at this ⊢
    rw [era_ne e]; exact this
theorem le_era_none {K H : Hp} {D : Addr} (l : Le K (era H D)) : K D = none := l.fresh era_self
theorem Nxt.era {K H K2 H2 : Hp} {D : Addr} {o : HO} (n : Nxt K H K2 H2) (hk : K D = none) (hd : H D = some o) (ht : isTup o = false) : Nxt K (SN.era H D) K2 (SN.era H2 D) :=
  ⟨n.le, le_era n.in_ (n.out D o hd ht hk), fun a u h => by
    by_cases e : a = D
    · subst e; rw [era_self] at h; cases h
    · rw [era_ne e] at h ⊢; exact n.same a u h, fun a u h h1 h2 => by
    by_cases e : a = D
    · subst e; rw [era_self] at h; cases h
    · rw [era_ne e] at h; exact n.out a u h h1 h2⟩
theorem Nxt.updE {K H K2 H2 : Hp} {D : Addr} {o : HO} (n : Nxt K (SN.era H D) K2 (SN.era H2 D)) : Nxt K (SN.era H D) K2 (SN.era (upd H2 D o) D) := by rw [era_upd]; exact n

/-! ### what a comprehension fills -/
structure Fill (β : Type) where
  o0 : HO
  Obj : Hp → HO → List β → Prop
  mono : ∀ {K K' o ys}, Le K K' → Obj K o ys → Obj K' o ys
  nt : ∀ {K o ys}, Obj K o ys → isTup o = false
  fz : ∀ {K o ys}, Obj K o ys → ∀ ob u, o ≠ .frz ob u
  nil : ∀ K, Obj K o0 []
def fillL {β : Type} (rr : Rel β) : Fill β where
  o0 := .lst []
  Obj := fun K o ys => ∃ vs, o = .lst vs ∧ Paired (rr.r K) vs ys
  mono := fun l ⟨vs, e, h⟩ => ⟨vs, e, Paired.imp (fun _ _ z => rr.mono l z) h⟩
  nt := fun ⟨vs, e, _⟩ => by rw [e]; rfl
  fz := fun ⟨vs, e, _⟩ ob u z => by rw [e] at z; cases z
  nil := fun _ => ⟨[], rfl, .nil⟩
/-- canonical reading of an action -/
def wAk (X : Cx) (act : Sem Fin → Sem Fin) (vs : List Nat) : L2.St → Hp → (Hp → Prop) → Prop := fun σ H N => ∀ pins s, Inv X pins σ H s → Ak X.prog X.w X.A act (fun s' => ∃ H', Inv X pins (wipe σ vs) H' s' ∧ N H') s
theorem pakW {X : Cx} (act : Sem Fin → Sem Fin) (vs : List Nat) : PAk X act vs (wAk X act vs) := ⟨fun pins s _ _ _ I h => h pins s I⟩
theorem PAk.to {X : Cx} {act : Sem Fin → Sem Fin} {vs : List Nat} {t : L2.St → Hp → (Hp → Prop) → Prop} (p : PAk X act vs t) {σ : L2.St} {H : Hp} {N : Hp → Prop} (h : t σ H N) : wAk X act vs σ H N := fun pins s I => p.run pins s σ H N I h
abbrev sz : Nat := 1000000
/-- the action puts bs into what D holds -/
def AkD (X : Cx) (act : Sem Fin → Sem Fin) (vs : List Nat) {β : Type} (F : Fill β) (D : Addr) (σ : L2.St) (K : Hp) (bs : List β) : Prop :=
  ∀ K1 H o ys, Le K K1 → Le K1 (era H D) → H D = some o → F.Obj K1 o ys → ys.length + bs.length ≤ sz →
    ∀ N : Hp → Prop, (∀ K2 H2 o2, Nxt K1 (era H D) K2 (era H2 D) → H2 D = some o2 → F.Obj K2 o2 (ys ++ bs) → N H2) → wAk X act vs σ H N
/-- a target takes a value -/
def GD (g : TG) (x : V) (σ : L2.St) (K : Hp) (σ2 : L2.St) : Prop := ∀ H, Le K H → ∀ Q : L2.St → Hp → Prop, Q σ2 H → g x σ H Q
section
variable {X : Cx} {α β γ δ : Type} {σ : L2.St} {K H K' H' : Hp} {r : Rel α} {a : α}
theorem akd_ls {elt : Expr} {rr : Rel β} {b : β} {D : Addr} (hxe : X.xe = fun _ _ => False) (h : EV X elt σ K rr b) : AkD X (lsAct elt (.ref D) X.env) [] (fillL rr) D σ K [b] := fun K1 H o ys l l1 hd ob hz N q => by
  refine (ak_list hxe (peW elt)).to (h.mono l H (era_le l1) _ fun v K2 H2 n2 hv => ?_)
  obtain ⟨vs, e, hp⟩ := ob
  subst e
  have hk := le_era_none l1
  refine ⟨vs, n2.same D _ hd, ?_, ?_⟩
  · have e1 := paired_len hp
    have e3 : (1000000 : Nat) < sizeLine := by decide
    simp only [sz, List.length_singleton] at hz
    omega
  · exact q K2 _ (.lst (vs ++ [v])) (n2.era hk hd rfl).updE upd_same ⟨_, rfl, paired_snoc (Paired.imp (fun _ _ z => rr.mono n2.le z) hp) hv⟩
/-- the loop of a clause -/
def emit (p : α → Bool) (em : α → List β) : α → List β := fun a => if p a = true then em a else []
theorem clw {J : It} {K1 Hw H1 : Hp} {xs : List α} {F : Fill β} {D : Addr} {o : HO} {ys : List β} {g : TG} {tt : TT} {ta : L2.St → Hp → (Hp → Prop) → Prop} {vs : List Nat} {N : Hp → Prop} {p : α → Bool} {em : α → List β}
    (w : Wk J K1 Hw r xs) (hlk : Lk Hw H1) (l1 : Le K1 (era H1 D)) (hd : H1 D = some o) (ob : F.Obj K1 o ys) (hz : ys.length + (xs.flatMap (emit p em)).length ≤ sz)
    (turn : ∀ (i : Nat) (a : α) (K2 : Hp) (x : V), xs[i]? = some a → Le K1 K2 → r.r K2 x a → ∃ σ2, GD g x (wipe σ vs) K2 σ2 ∧ wipe σ2 vs = wipe σ vs ∧
      (∀ H2, Le K2 H2 → ∀ Q : Bool → Hp → Prop, (∀ H3, Same H2 H3 → Q (p a) H3) → tt σ2 H2 Q) ∧
      (p a = true → ∀ K3 H3 o3 zs, Le K2 K3 → Le K3 (era H3 D) → H3 D = some o3 → F.Obj K3 o3 zs → zs.length + (em a).length ≤ sz → ∀ N' : Hp → Prop, (∀ K4 H4 o4, Nxt K3 (era H3 D) K4 (era H4 D) → H4 D = some o4 → F.Obj K4 o4 (zs ++ em a) → N' H4) → ta σ2 H3 N'))
    (hN : ∀ K2 H2 o2, Nxt K1 (era H1 D) K2 (era H2 D) → H2 D = some o2 → F.Obj K2 o2 (ys ++ xs.flatMap (emit p em)) → N H2) :
    ∃ W : Nat → Nat → Hp → Prop, (∃ m, W 0 m H1) ∧ ClW J g tt ta vs σ N W := by
  obtain ⟨G, Y, w, gG, gY⟩ := w
  have pl : ∀ {i a}, xs[i]? = some a → (xs.take (i + 1)).flatMap (emit p em) = (xs.take i).flatMap (emit p em) ++ emit p em a := fun {i a} e => by
    rw [take_snoc e, List.flatMap_append, List.flatMap_cons, List.flatMap_nil, List.append_nil]
  have lk : ∀ {K' H'}, Nxt K1 (era H1 D) K' (era H' D) → Lk Hw H' := fun {K' H'} n d ob' u e => by
    have e1 := hlk d ob' u e
    have z : d ≠ D := fun z => by subst z; rw [hd] at e1; exact F.fz ob _ _ (Option.some.inj e1)
    have := n.same d _ (by rw [era_ne z]; exact e1)
    rw [era_ne z] at this; exact this
  refine ⟨fun i m H => m = xs.length - i ∧ i ≤ xs.length ∧ ∃ K' o', Nxt K1 (era H1 D) K' (era H D) ∧ H D = some o' ∧ F.Obj K' o' (ys ++ (xs.take i).flatMap (emit p em)), ⟨xs.length, by simp, Nat.zero_le _, K1, o, .refl l1, hd, by simpa using ob⟩, ?_⟩
  rintro i m H ⟨rfl, hi, K', o', n', hd', ob'⟩
  have gh : G H := gG H (n'.le.trans (era_le n'.in_)) (lk n')
  by_cases hlt : i < xs.length
  · refine .inr ⟨w.goes i H hlt gh, fun H' => ∃ K' o', Nxt K1 (era H1 D) K' (era H' D) ∧ H' D = some o' ∧ F.Obj K' o' (ys ++ (xs.take (i + 1)).flatMap (emit p em)), fun H' ⟨K5, o5, a1, a2, a3⟩ => ⟨_, by omega, rfl, hlt, K5, o5, a1, a2, a3⟩, fun x H' y => ?_⟩
    obtain ⟨K2, a, ea, n2, hr⟩ := gY i H x H' hlt (n'.le.trans (era_le n'.in_)) (lk n') (w.yields i H x H' hlt gh y)
    obtain ⟨n2', l2⟩ := n2.wide n'.le (era_le n'.in_)
    obtain ⟨σ2, hg, hw, ht, ha⟩ := turn i a (join K' K2) x ea (n'.le.trans join_l) (r.mono l2 hr)
    have hk' : K' D = none := le_era_none n'.in_
    have nE := n2'.era hk' hd' (F.nt ob')
    refine hg H' n2'.in_ _ ⟨hw, ht H' n2'.in_ _ fun H3 s3 => ?_⟩
    have hd3 : H3 D = some o' := s3 D _ (n2'.same D _ hd')
    have n3 : Nxt (join K' K2) (era H' D) (join K' K2) (era H3 D) := ⟨Le.refl _, le_era (n2'.in_.trans (same_le s3)) (le_era_none nE.in_), fun c u e => by
      by_cases z : c = D
      · subst z; rw [era_self] at e; cases e
      · rw [era_ne z] at e ⊢; exact s3 c u e, fun _ _ _ _ h => h⟩
    have nn := (n'.trans nE).trans n3
    cases e : p a with
    | false =>
      rw [if_neg Bool.false_ne_true]
      refine ⟨join K' K2, o', nn, hd3, ?_⟩
      rw [pl ea, show emit p em a = [] from if_neg (by rw [e]; exact Bool.false_ne_true), List.append_nil]
      exact F.mono join_l ob'
    | true =>
      rw [if_pos rfl]
      have e2 : emit p em a = em a := if_pos e
      refine ha e (join K' K2) H3 o' (ys ++ (xs.take i).flatMap (emit p em)) (Le.refl _) nn.in_ hd3 (F.mono join_l ob') ?_ _ fun K4 H4 o4 n4 hd4 ob4 => ⟨K4, o4, nn.trans n4, hd4, ?_⟩
      · have e3 : (ys ++ (xs.take (i + 1)).flatMap (emit p em)).length ≤ ys.length + (xs.flatMap (emit p em)).length := by
          rw [List.length_append]
          refine Nat.add_le_add_left ?_ _
          have := List.take_append_drop (i + 1) xs
          conv => rhs; rw [← this, List.flatMap_append, List.length_append]
          exact Nat.le_add_right _ _
        rw [pl ea, e2, ← List.append_assoc, List.length_append] at e3
        exact Nat.le_trans e3 hz
      · rw [pl ea, e2, ← List.append_assoc]; exact ob4
  · have e : i = xs.length := by omega
    subst e
    rw [List.take_length] at ob'
    exact .inl ⟨w.stops H gh, hN K' H o' n' hd' ob'⟩
/-- an inner clause -/
theorem akd_in {e : Expr} {k : Nat} {g : Comprehension} {act : Sem Fin → Sem Fin} {D : Addr} {tg : TG} {vs vsIn : List Nat} {xs : List α} {F : Fill β} {p : α → Bool} {em : α → List β}
    (hxe : X.xe = fun _ _ => False) (hc : X.calm = true) (C : Cmp X.prog X.w X.A e (.ref D) X.env) (hcl : (clausesOf e)[k]? = some g) (hga : g.is_async = 0) (hsh : ∀ it, compTurn e k it (.ref D) X.env = cTurn g act (.compLoop e k it (.ref D) X.env) it X.env)
    (hi : ES X g.target g.iter σ K [] r xs) (pg : PG X g.target tg) (hv : ∀ i ∈ vsIn, i ∈ vs)
    (turn : ∀ (i : Nat) (a : α) (K2 : Hp) (x : V), xs[i]? = some a → Le K K2 → r.r K2 x a → ∃ σ2, GD tg x (wipe σ vs) K2 σ2 ∧ wipe σ2 vs = wipe σ vs ∧ ETs X g.ifs σ2 K2 (p a) ∧ (p a = true → AkD X act vsIn F D σ2 K2 (em a)))
    (hs : ∀ x, foldedSetIterable g.iter X.env x = pure x := by intro _; rfl) :
    AkD X (inAct e k g (.ref D) X.env) vs F D σ K (xs.flatMap (emit p em)) := fun K1 H o ys l l1 hd ob hz N q => by
  refine (ak_in hxe hc C hcl hga hsh hs (piW g.target g.iter) pg (tt := wTs X g.ifs) ⟨fun pins s _ _ _ I h => h pins s I⟩ (pakW act vsIn) hv).to ?_
  refine hi.mono l H (era_le l1) (fun _ z => nomatch z) _ fun J K2 H2 n w => ?_
  have hk := le_era_none l1
  have nE := n.era hk hd (F.nt ob)
  refine clw w (Lk.refl _) nE.in_ (n.same D _ hd) (F.mono n.le ob) hz (fun i a K3 x ea l3 hr => ?_) fun K3 H3 o3 n3 hd3 ob3 => q K3 H3 o3 (nE.trans n3) hd3 ob3
  obtain ⟨σ2, h1, h2, h3, h4⟩ := turn i a K3 x ea (l.trans (n.le.trans l3)) hr
  exact ⟨σ2, h1, h2, fun H2' l2' Q q' => h3.use l2' q', fun e K4 H4 o4 zs l4 l5 hd4 ob4 hz4 N' q4 => h4 e K4 H4 o4 zs l4 l5 hd4 ob4 hz4 N' q4⟩
/-- readings of actions in whatever block -/
def wAB (X : Cx) (scope : Scope) (act : Addr → Env → Sem Fin → Sem Fin) (vs : List Nat) (D : Addr) : L2.St → Hp → (Hp → Prop) → Prop := fun σ H N => ∀ s H0 C cl fp, wAk (blkX X scope s H0 C cl fp) (act D (compEnvC scope cl C X.env)) vs σ H N
/-- a whole comprehension, told by its use -/
theorem co_data {e0 : Expr} {g : Comprehension} {gs : List Comprehension} {scope : Scope} {own : List (Str × Nat)} {pos' : Pos} {newAcc : Sem Value} {act : Addr → Env → Sem Fin → Sem Fin} {tg : TG} {vsIn : List Nat} {L : List Addr} {xs : List α} {F : Addr → Fill β} {p : α → Bool} {em : α → List β}
    {use : Option (Value → Sem Unit)} {Q : VK} {Qf : Value → Shared → Prop} {pins : List (Addr × Obj)} {s : Shared}
    (hc : X.calm = true) (hN : X.N.Nodup) (hcl : clausesOf e0 = g :: gs) (hga : g.is_async = 0) (C : ∀ D env, Cmp X.prog X.w X.A e0 (.ref D) env) (hsh : ∀ it D env, compTurn e0 0 it (.ref D) env = cTurn g (act D env) (.compLoop e0 0 it (.ref D) env) it env) (na : NewAcc X newAcc (fun D => (F D).o0))
    (hi : ES X g.target g.iter σ K L r xs) (ok : BlkOk X.N X.env.scope scope own) (pg : ∀ s H C cl fp, PG (blkX X scope s H C cl fp) g.target tg) (hv : ∀ i ∈ vsIn, i ∈ own.map (·.2)) (hz : (xs.flatMap (emit p em)).length ≤ sz)
    (turn : ∀ (D : Addr) (i : Nat) (a : α) (K2 : Hp) (x : V), xs[i]? = some a → Le K K2 → r.r K2 x a → ∃ σ2, GD tg x (wipe σ (own.map (·.2))) K2 σ2 ∧ wipe σ2 (own.map (·.2)) = wipe σ (own.map (·.2)) ∧
      ∀ s H0 C cl fp, ETs (blkX X scope s H0 C cl fp) g.ifs σ2 K2 (p a) ∧ (p a = true → AkD (blkX X scope s H0 C cl fp) (act D (compEnvC scope cl C X.env)) vsIn (F D) D σ2 K2 (em a)))
    (hs : ∀ x, foldedSetIterable g.iter X.env x = pure x) (I : Inv X pins σ H s) (l : Le K H) (hL : ∀ d ∈ L, ∃ o u, H d = some (.frz o u))
    (q : ∀ D K' H' o, Nxt K H K' H' → K' D = some o → (F D).Obj K' o (xs.flatMap (emit p em)) → Q (.ref D) H')
    (hRR : ∀ D C s' m H', Inv X pins σ H' s' → Q (.ref D) H' → s'.heap.Ns C m → FpOk X pins H' C → compPost (model X.prog X.w) X.A X.xe use Qf (.ref D) C (.ok .next) s') :
    wpAny (model X.prog X.w) X.A (comprehension e0 scope X.env pos' newAcc false (eval g.iter X.env) use) Qf X.xe s := by
  refine co_core (act := act) (vsIn := vsIn) (tt := wTB X scope g.ifs) (ta := wAB X scope act vsIn) hc hN hcl hga C hsh na (piW g.target g.iter) ok pg (fun s H0 C cl fp => ⟨fun pins s' σ' H' Q' I h => h s H0 C cl fp pins s' I⟩) (fun D s H0 C cl fp => ⟨fun pins s' σ' H' N I h => h s H0 C cl fp pins s' I⟩) hv hs I ?_ hRR
  refine hi H l hL _ fun J K1 H1 n w => ?_
  intro D hD
  have hDK : K1 D = none := n.in_.fresh hD
  have eE : era (upd H1 D (F D).o0) D = H1 := by rw [era_upd, era_none hD]
  refine clw (H1 := upd H1 D (F D).o0) (ys := []) w (fun d ob u e => by rw [upd_ne (ne_of_none e hD)]; exact e) (by rw [eE]; exact n.in_) upd_same ((F D).nil K1) (by simpa using hz) (fun i a K2 x ea l2 hr => ?_) fun K2 H2 o2 n2 hd2 ob2 => ?_
  · obtain ⟨σ2, h1, h2, h3⟩ := turn D i a K2 x ea (n.le.trans l2) hr
    exact ⟨σ2, h1, h2, fun H2 l2' Q' q' s H0 C cl fp => (h3 s H0 C cl fp).1.use l2' q', fun e K3 H3 o3 zs l3 l4 hd3 ob3 hz3 N' q' s H0 C cl fp => (h3 s H0 C cl fp).2 e K3 H3 o3 zs l3 l4 hd3 ob3 hz3 N' q'⟩
  · rw [eE] at n2
    have e2 : upd (era H2 D) D o2 = H2 := upd_era hd2
    have n3 : Nxt K H (upd K2 D o2) H2 := by
      rw [← e2]
      exact (n.trans n2).trans (.new n2.in_ era_self)
    exact q D _ H2 o2 n3 upd_same ((F D).mono (le_new' (le_era_none n2.in_)) (by simpa using ob2))
end
end SN
end TQE

section TQF
set_option Elab.async false
set_option linter.all false
set_option maxRecDepth 100000
set_option maxHeartbeats 4000017
/-! KF: comprehensions to data: lists, dicts of ints, dicts of cells; as values and as what a name is set to. -/
namespace SN
open PySem PySem.Spec PyProof.Rows L2

/-! ### dicts as lists of pairs -/
section
variable {κ α : Type} [DecidableEq κ]
def dget (l : List (κ × α)) (k : κ) : Option α := (l.find? fun kv => decide (kv.1 = k)).map (·.2)
def dput (l : List (κ × α)) (k : κ) (a : α) : List (κ × α) := if (l.any fun kv => decide (kv.1 = k)) = true then l.map (fun kv => if kv.1 = k then (kv.1, a) else kv) else l ++ [(k, a)]
def dputs (l ys : List (κ × α)) : List (κ × α) := ys.foldl (fun l kv => dput l kv.1 kv.2) l
theorem dputs_snoc {l ys : List (κ × α)} {k : κ} {a : α} : dputs l (ys ++ [(k, a)]) = dput (dputs l ys) k a := by unfold dputs; rw [List.foldl_append]; rfl
theorem dputs_nil {l : List (κ × α)} : dputs l [] = l := rfl
theorem dput_length (l : List (κ × α)) (k : κ) (a : α) : (dput l k a).length ≤ l.length + 1 := by
  unfold dput
  split <;> simp
theorem dputs_length : ∀ (ys l : List (κ × α)), (dputs l ys).length ≤ l.length + ys.length
  | [], l => Nat.le_refl _
  | y :: ys, l => by
    have h1 := dputs_length ys (dput l y.1 y.2)
    have h2 := dput_length l y.1 y.2
    show (dputs (dput l y.1 y.2) ys).length ≤ _
    simp only [List.length_cons]
    omega
end
theorem paired_any {α β κ κ' : Type} [DecidableEq κ] [DecidableEq κ'] {f : κ' → κ} (hf : ∀ x y, f x = f y → x = y) {R : V → α → Prop} {k : κ'} : ∀ {kvs : List (κ × V)} {l : List (κ' × α)}, Paired (fun kv ka => kv.1 = f ka.1 ∧ R kv.2 ka.2) kvs l →
    (kvs.any fun kv => decide (kv.1 = f k)) = l.any fun ka => decide (ka.1 = k)
  | _, _, .nil => rfl
  | _, _, .cons (a := kv) (b := ka) h t => by
    rw [List.any_cons, List.any_cons, paired_any (β := β) hf t, h.1]
    congr 1
    exact decide_eq_decide.mpr ⟨fun e => hf _ _ e, fun e => by rw [e]⟩
theorem paired_map {α β κ κ' : Type} [DecidableEq κ] [DecidableEq κ'] {f : κ' → κ} (hf : ∀ x y, f x = f y → x = y) {R : V → α → Prop} {k : κ'} {v : V} {a : α} (hv : R v a) : ∀ {kvs : List (κ × V)} {l : List (κ' × α)}, Paired (fun kv ka => kv.1 = f ka.1 ∧ R kv.2 ka.2) kvs l →
    Paired (fun kv ka => kv.1 = f ka.1 ∧ R kv.2 ka.2) (kvs.map fun kv => if kv.1 = f k then (kv.1, v) else kv) (l.map fun ka => if ka.1 = k then (ka.1, a) else ka)
  | _, _, .nil => .nil
  | _, _, .cons (a := kv) (b := ka) h t => by
    refine .cons ?_ (paired_map (β := β) hf hv t)
    dsimp only
    by_cases e : ka.1 = k
    · have e2 : kv.1 = f k := by rw [h.1, e]
      rw [if_pos e, if_pos e2]
      exact ⟨h.1, hv⟩
    · have e2 : ¬ kv.1 = f k := fun z => e (hf _ _ (h.1.symm.trans z))
      rw [if_neg e, if_neg e2]
      exact h
theorem paired_put {α κ κ' : Type} [DecidableEq κ] [DecidableEq κ'] {f : κ' → κ} (hf : ∀ x y, f x = f y → x = y) {R : V → α → Prop} {k : κ'} {v : V} {a : α} (hv : R v a) {kvs : List (κ × V)} {l : List (κ' × α)} (h : Paired (fun kv ka => kv.1 = f ka.1 ∧ R kv.2 ka.2) kvs l) :
    Paired (fun kv ka => kv.1 = f ka.1 ∧ R kv.2 ka.2) (putK kvs (f k) v) (dput l k a) := by
  unfold putK dput
  rw [paired_any (β := α) hf (k := k) h]
  split
  · exact paired_map (β := α) hf hv h
  · exact paired_snoc h ⟨rfl, hv⟩
theorem paired_dget {α κ κ' : Type} [DecidableEq κ] [DecidableEq κ'] {f : κ' → κ} (hf : ∀ x y, f x = f y → x = y) {R : V → α → Prop} {k : κ'} : ∀ {kvs : List (κ × V)} {l : List (κ' × α)}, Paired (fun kv ka => kv.1 = f ka.1 ∧ R kv.2 ka.2) kvs l →
    (dget l k = none ∧ valV kvs (f k) = none) ∨ ∃ a v, dget l k = some a ∧ valV kvs (f k) = some v ∧ R v a
  | _, _, .nil => .inl ⟨rfl, rfl⟩
  | _, _, .cons (a := kv) (b := ka) (l₁ := l1) (l₂ := l2) h t => by
    by_cases e : ka.1 = k
    · have e2 : kv.1 = f k := by rw [h.1, e]
      exact .inr ⟨ka.2, kv.2, by simp [dget, e], valV_pos e2, h.2⟩
    · have e2 : ¬ kv.1 = f k := fun z => e (hf _ _ (h.1.symm.trans z))
      rw [valV_neg e2, show dget (ka :: l2) k = dget l2 k from by simp [dget, e]]
      exact paired_dget hf t
theorem inl_inj (x y : Int) (h : (Sum.inl x : Key) = Sum.inl y) : x = y := by cases h; rfl
theorem ck_inj (x y : Cell) (h : ck x = ck y) : x = y := by
  obtain ⟨a, b, c⟩ := x
  obtain ⟨d, e, f⟩ := y
  unfold ck at h
  simp only [List.cons.injEq, Sum.inl.injEq, and_true] at h
  obtain ⟨h1, h2, h3⟩ := h
  subst h1; subst h2; subst h3; rfl

/-! ### fills -/
def fillDI {α : Type} (r : Rel α) : Fill (Int × α) where
  o0 := .dK []
  Obj := fun K o ys => ∃ kvs, o = .dK kvs ∧ Paired (fun (kv : Key × V) (ka : Int × α) => kv.1 = .inl ka.1 ∧ r.r K kv.2 ka.2) kvs (dputs [] ys)
  mono := fun l ⟨vs, e, h⟩ => ⟨vs, e, Paired.imp (fun _ _ z => ⟨z.1, r.mono l z.2⟩) h⟩
  nt := fun ⟨vs, e, _⟩ => by rw [e]; rfl
  fz := fun ⟨vs, e, _⟩ ob u z => by rw [e] at z; cases z
  nil := fun _ => ⟨[], rfl, .nil⟩
def fillDC {α : Type} (r : Rel α) : Fill (Cell × α) where
  o0 := .dT []
  Obj := fun K o ys => ∃ kvs, o = .dT kvs ∧ Paired (fun (kv : List Key × V) (ka : Cell × α) => kv.1 = ck ka.1 ∧ r.r K kv.2 ka.2) kvs (dputs [] ys)
  mono := fun l ⟨vs, e, h⟩ => ⟨vs, e, Paired.imp (fun _ _ z => ⟨z.1, r.mono l z.2⟩) h⟩
  nt := fun ⟨vs, e, _⟩ => by rw [e]; rfl
  fz := fun ⟨vs, e, _⟩ ob u z => by rw [e] at z; cases z
  nil := fun _ => ⟨[], rfl, .nil⟩
/-- d[tuple] = v by a comprehension -/
theorem d_dictSetT {X : Cx} {pins : List (Addr × Obj)} {σ : L2.St} {H : Hp} {s : Shared} {E : Value → Shared → Prop} {D b : Addr} {kvs : List (List Key × V)} {k : List Key} {v : V} {r : Value} {Q : Unit → Shared → Prop} (hu : X.A.units + 1 < cLine) (I : Inv X pins σ H s) (hD : H D = some (.dT kvs)) (hb : H b = some (.tup (k.map kV))) (hz : kvs.length < sizeLine)
    (rv : RelV v r) (h : ∀ s', Inv X pins σ (upd H D (.dT (putK kvs k v))) s' → Q () s') : wpAny (model X.prog X.w) X.A (dictSet D (.ref b) r) Q E s := by
  obtain ⟨z, hd, xs, rel, dd⟩ := dt_of I.hok hD
  have hzx : xs.length ≤ sizeLine := by rw [← Paired.length rel]; exact z
  have hl : (putK kvs k v).length ≤ sizeLine := by have := length_putK kvs k v; omega
  refine wpAny_dictSet_heap (hsz := hzx) (show (tupleKind (mixKind X.prog X.w)).room X.A from Nat.lt_of_succ_lt hu) (key_of I.hok hb) dd fun h' dd' hs => h _ ?_
  obtain ⟨q, es, ep, hq, h2, h3, h4, _, h5⟩ := dd'
  refine d_write I (by rw [hD]; exact True.intro) hs ⟨q, hq⟩ ⟨hl, hd, _, (rel.put k hb rv).keeps fun c ys ec => ?_, q, es, ep, hq, h2, h3, h4, h5⟩
  rw [upd_ne (ne_of ec hD (fun z => nomatch z))]
  exact ec
section
variable {X : Cx} {α β γ δ : Type} {σ : L2.St} {K H K' H' : Hp} {r : Rel α} {a : α}
theorem ak_dK {kx vx : Expr} {tk tv : TE} {D : Addr} (hxe : X.xe = fun _ _ => False) (hk : PE X kx tk) (he : PE X vx tv) :
    PAk X (dcAct kx vx D X.env) [] (fun σ H N => tk σ H fun y H4 => tv σ H4 fun z H5 => ∃ kvs k, y = kV k ∧ H5 D = some (.dK kvs) ∧ kvs.length < sizeLine ∧ N (upd H5 D (.dK (putK kvs k z)))) := by
  refine ⟨fun pins s σ H N I h k Q E hk' => ?_⟩
  unfold dcAct
  refine wpAny_bind (wpAny_bind (thn0 hxe (hk.run pins s σ H _ I h) fun x s1 ⟨y, H1, I1, r1, q1⟩ => ?_))
  refine wpAny_bind (wpAny_holding (thn0 hxe (he.run pins s1 σ H1 _ I1 q1) fun x2 s2 ⟨z, H2, I2, r2, kvs, kk, e, hD, hz, n⟩ => ?_))
  subst e
  refine wpAny_bind (wpAny_standAt (wpAny_holding (d_dictSet I2 hD hz r1 r2 fun s3 I3 => ?_)))
  exact hk' s3 ⟨_, I3, n⟩
theorem ak_dT {kx vx : Expr} {tk tv : TE} {D : Addr} (hu : X.A.units + 1 < cLine) (hxe : X.xe = fun _ _ => False) (hk : PE X kx tk) (he : PE X vx tv) :
    PAk X (dcAct kx vx D X.env) [] (fun σ H N => tk σ H fun y H4 => tv σ H4 fun z H5 => ∃ kvs k b, y = .ref b ∧ H5 b = some (.tup (k.map kV)) ∧ H5 D = some (.dT kvs) ∧ kvs.length < sizeLine ∧ N (upd H5 D (.dT (putK kvs k z)))) := by
  refine ⟨fun pins s σ H N I h k Q E hk' => ?_⟩
  unfold dcAct
  refine wpAny_bind (wpAny_bind (thn0 hxe (hk.run pins s σ H _ I h) fun x s1 ⟨y, H1, I1, r1, q1⟩ => ?_))
  refine wpAny_bind (wpAny_holding (thn0 hxe (he.run pins s1 σ H1 _ I1 q1) fun x2 s2 ⟨z, H2, I2, r2, kvs, kk, b, e, hb, hD, hz, n⟩ => ?_))
  subst e
  cases (show x = Value.ref b from r1)
  refine wpAny_bind (wpAny_standAt (wpAny_holding (d_dictSetT hu I2 hD hb hz r2 fun s3 I3 => ?_)))
  exact hk' s3 ⟨_, I3, n⟩
theorem szline {κ α : Type} [DecidableEq κ] {ys : List (κ × α)} {b : κ × α} {n : Nat} (e1 : n = (dputs [] ys).length) (hz : ys.length + [b].length ≤ sz) : n < sizeLine := by
  have e2 := dputs_length ys ([] : List (κ × α))
  have e3 : (1000000 : Nat) < sizeLine := by decide
  simp only [sz, List.length_singleton, List.length_nil] at hz e2
  omega
theorem akd_dI {kx vx : Expr} {rr : Rel β} {k : Int} {b : β} {D : Addr} (hxe : X.xe = fun _ _ => False) (hk : EV X kx σ K rInt k) (hv : EV X vx σ K rr b) : AkD X (dcAct kx vx D X.env) [] (fillDI rr) D σ K [(k, b)] := fun K1 H o ys l l1 hd ob hz N q => by
  refine (ak_dK hxe (peW kx) (peW vx)).to (hk.mono l H (era_le l1) _ fun v K2 H2 n2 hkv => hv.mono (l.trans n2.le) H2 n2.in_ _ fun u K3 H3 n3 hvv => ?_)
  obtain ⟨kvs, e, hp⟩ := ob
  subst e
  obtain rfl : v = .int k := hkv
  have hk := le_era_none l1
  have n := n2.trans n3
  refine ⟨kvs, .inl k, rfl, n.same D _ hd, szline (paired_len hp) hz, ?_⟩
  refine q K3 _ (.dK (putK kvs (.inl k) u)) (n.era hk hd rfl).updE upd_same ⟨_, rfl, ?_⟩
  rw [dputs_snoc]
  exact paired_put (f := Sum.inl) inl_inj (R := rr.r K3) hvv (Paired.imp (fun _ _ z => ⟨z.1, rr.mono n.le z.2⟩) hp)
theorem akd_dC {kx vx : Expr} {rr : Rel β} {k : Cell} {b : β} {D : Addr} (hu : X.A.units + 1 < cLine) (hxe : X.xe = fun _ _ => False) (hk : EV X kx σ K rCell k) (hv : EV X vx σ K rr b) : AkD X (dcAct kx vx D X.env) [] (fillDC rr) D σ K [(k, b)] := fun K1 H o ys l l1 hd ob hz N q => by
  refine (ak_dT hu hxe (peW kx) (peW vx)).to (hk.mono l H (era_le l1) _ fun v K2 H2 n2 ⟨c, e1, hc⟩ => hv.mono (l.trans n2.le) H2 n2.in_ _ fun u K3 H3 n3 hvv => ?_)
  obtain ⟨kvs, e, hp⟩ := ob
  subst e
  have hk := le_era_none l1
  have n := n2.trans n3
  refine ⟨kvs, ck k, c, e1, co_tup.mp (n3.in_ c _ (n3.le c _ hc)), n.same D _ hd, szline (paired_len hp) hz, ?_⟩
  refine q K3 _ (.dT (putK kvs (ck k) u)) (n.era hk hd rfl).updE upd_same ⟨_, rfl, ?_⟩
  rw [dputs_snoc]
  exact paired_put (f := ck) ck_inj (R := rr.r K3) hvv (Paired.imp (fun _ _ z => ⟨z.1, rr.mono n.le z.2⟩) hp)

/-! ### whole comprehensions -/
def compOf (e : Expr) (env : Env) (use : Option (Value → Sem Unit)) : Sem Value := match e with
  | .ListComp _ gens scope pos => comprehension e scope env (firstIterPos gens pos) (newList []) (firstAsync gens) (firstIter gens env) use
  | .DictComp _ _ gens scope pos => comprehension e scope env (firstIterPos gens pos) newDict (firstAsync gens) (firstIter gens env) use
  | _ => pure .none
/-- the comprehension e gives z, however it is used; L: dicts that must be locked -/
def CD (X : Cx) (e : Expr) (σ : L2.St) (K : Hp) (L : List Addr) {δ : Type} (rr : Rel δ) (z : δ) : Prop :=
  ∀ (use : Option (Value → Sem Unit)) (Q : VK) (Qf : Value → Shared → Prop) (pins : List (Addr × Obj)) (s : Shared) (H : Hp), Inv X pins σ H s → Le K H → (∀ d ∈ L, ∃ o u, H d = some (.frz o u)) →
    (∀ v K' H', Nxt K H K' H' → rr.r K' v z → Q v H') →
    (∀ D C s' m H', Inv X pins σ H' s' → Q (.ref D) H' → s'.heap.Ns C m → FpOk X pins H' C → compPost (model X.prog X.w) X.A X.xe use Qf (.ref D) C (.ok .next) s') →
    wpAny (model X.prog X.w) X.A (compOf e X.env use) Qf X.xe s
theorem cd_any {e0 : Expr} {g : Comprehension} {gs : List Comprehension} {scope : Scope} {own : List (Str × Nat)} {pos' : Pos} {newAcc : Sem Value} {act : Addr → Env → Sem Fin → Sem Fin} {tg : TG} {vsIn : List Nat} {L : List Addr} {xs : List α} {F : Addr → Fill β} {p : α → Bool} {em : α → List β} {rr : Rel δ} {z : δ}
    (hc : X.calm = true) (hN : X.N.Nodup) (hcl : clausesOf e0 = g :: gs) (hga : g.is_async = 0) (C : ∀ D env, Cmp X.prog X.w X.A e0 (.ref D) env) (hsh : ∀ it D env, compTurn e0 0 it (.ref D) env = cTurn g (act D env) (.compLoop e0 0 it (.ref D) env) it env) (na : NewAcc X newAcc (fun D => (F D).o0))
    (hco : ∀ use, compOf e0 X.env use = comprehension e0 scope X.env pos' newAcc false (eval g.iter X.env) use)
    (hi : ES X g.target g.iter σ K L r xs) (ok : BlkOk X.N X.env.scope scope own) (pg : ∀ s H C cl fp, PG (blkX X scope s H C cl fp) g.target tg) (hv : ∀ i ∈ vsIn, i ∈ own.map (·.2)) (hz : (xs.flatMap (emit p em)).length ≤ sz)
    (turn : ∀ (D : Addr) (i : Nat) (a : α) (K2 : Hp) (x : V), xs[i]? = some a → Le K K2 → r.r K2 x a → ∃ σ2, GD tg x (wipe σ (own.map (·.2))) K2 σ2 ∧ wipe σ2 (own.map (·.2)) = wipe σ (own.map (·.2)) ∧
      ∀ s H0 C cl fp, ETs (blkX X scope s H0 C cl fp) g.ifs σ2 K2 (p a) ∧ (p a = true → AkD (blkX X scope s H0 C cl fp) (act D (compEnvC scope cl C X.env)) vsIn (F D) D σ2 K2 (em a)))
    (fin : ∀ K D o, K D = some o → (F D).Obj K o (xs.flatMap (emit p em)) → rr.r K (.ref D) z) (hs : ∀ x, foldedSetIterable g.iter X.env x = pure x) : CD X e0 σ K L rr z := fun use Q Qf pins s H I l hL q hRR => by
  rw [hco]
  exact co_data hc hN hcl hga C hsh na hi ok pg hv hz turn hs I l hL (fun D K' H' o n e ob => q _ K' H' n (fin K' D o e ob)) hRR
theorem emit_one (p : α → Bool) (f : α → β) : ∀ xs : List α, xs.flatMap (emit p fun a => [f a]) = (xs.filter p).map f
  | [] => rfl
  | x :: xs => by
    rw [List.flatMap_cons, emit_one p f xs]
    unfold emit
    cases h : p x <;> simp [List.filter_cons, h]
theorem filter_map_len (p : α → Bool) (f : α → β) (xs : List α) : ((xs.filter p).map f).length ≤ xs.length := by
  rw [List.length_map]; exact List.length_filter_le p xs
/-- what a turn of one clause is to do, the element a list's -/
def Turn1 (X : Cx) (scope : Scope) (tg : TG) (vs : List Nat) (ifs : List Expr) (σ : L2.St) (K : Hp) {α : Type} (r : Rel α) (xs : List α) (p : α → Bool) (P : (B : Cx) → L2.St → Hp → α → Prop) : Prop :=
  ∀ (i : Nat) (a : α) (K2 : Hp) (x : V), xs[i]? = some a → Le K K2 → r.r K2 x a → ∃ σ2, GD tg x (wipe σ vs) K2 σ2 ∧ wipe σ2 vs = wipe σ vs ∧
      ∀ s H0 C cl fp, ETs (blkX X scope s H0 C cl fp) ifs σ2 K2 (p a) ∧ (p a = true → P (blkX X scope s H0 C cl fp) σ2 K2 a)
theorem cd_l1 {elt tg iter : Expr} {ifs : List Expr} {scope : Scope} {own : List (Str × Nat)} {pos : Pos} {g : TG} {L : List Addr} {rr : Rel β} {xs : List α} {p : α → Bool} {f : α → β} (hc : X.calm = true) (hN : X.N.Nodup) (hi : ES X tg iter σ K L r xs) (ok : BlkOk X.N X.env.scope scope own)
    (pg : ∀ s H C cl fp, PG (blkX X scope s H C cl fp) tg g) (hz : xs.length ≤ sz) (turn : Turn1 X scope g (own.map (·.2)) ifs σ K r xs p fun B σ2 K2 a => EV B elt σ2 K2 rr (f a)) (hf : ∀ x, foldedSetIterable iter X.env x = pure x := by intro _; rfl) :
    CD X (.ListComp elt [⟨tg, iter, ifs, 0⟩] scope pos) σ K L (rLst X.K rr) ((xs.filter p).map f) := by
  refine cd_any (g := ⟨tg, iter, ifs, 0⟩) (act := fun D env => lsAct elt (.ref D) env) (F := fun _ => fillL rr) (em := fun a => [f a]) (p := p) (vsIn := []) hc hN rfl rfl (fun _ _ => cmp_l) (fun _ _ _ => turn_l1) na_list (fun _ => rfl) hi ok pg (fun _ h => nomatch h) (by rw [emit_one]; exact Nat.le_trans (filter_map_len p f xs) hz) ?_ ?_ hf
  · intro D i a K2 x ea l hr
    obtain ⟨σ2, h1, h2, h3⟩ := turn i a K2 x ea l hr
    exact ⟨σ2, h1, h2, fun s H0 C cl fp => ⟨(h3 s H0 C cl fp).1, fun e => akd_ls rfl ((h3 s H0 C cl fp).2 e)⟩⟩
  · rintro K1 D o e ⟨vs, e2, hp⟩
    subst e2
    rw [emit_one] at hp
    exact ⟨D, vs, rfl, SqL.of e, hp⟩
theorem cd_dI {kx vx tg iter : Expr} {ifs : List Expr} {scope : Scope} {own : List (Str × Nat)} {pos : Pos} {g : TG} {L : List Addr} {rr : Rel β} {xs : List α} {p : α → Bool} {f : α → Int × β} (hc : X.calm = true) (hN : X.N.Nodup) (hi : ES X tg iter σ K L r xs) (ok : BlkOk X.N X.env.scope scope own)
    (pg : ∀ s H C cl fp, PG (blkX X scope s H C cl fp) tg g) (hz : xs.length ≤ sz) (turn : Turn1 X scope g (own.map (·.2)) ifs σ K r xs p fun B σ2 K2 a => EV B kx σ2 K2 rInt (f a).1 ∧ EV B vx σ2 K2 rr (f a).2) (hf : ∀ x, foldedSetIterable iter X.env x = pure x := by intro _; rfl) :
    CD X (.DictComp kx vx [⟨tg, iter, ifs, 0⟩] scope pos) σ K L (rDI rr) (dputs [] ((xs.filter p).map f)) := by
  refine cd_any (g := ⟨tg, iter, ifs, 0⟩) (act := fun D env => dcAct kx vx D env) (F := fun _ => fillDI rr) (em := fun a => [f a]) (p := p) (vsIn := []) hc hN rfl rfl (fun _ _ => cmp_d) (fun _ _ _ => turn_d1) na_dK (fun _ => rfl) hi ok pg (fun _ h => nomatch h) (by rw [emit_one]; exact Nat.le_trans (filter_map_len p f xs) hz) ?_ ?_ hf
  · intro D i a K2 x ea l hr
    obtain ⟨σ2, h1, h2, h3⟩ := turn i a K2 x ea l hr
    exact ⟨σ2, h1, h2, fun s H0 C cl fp => ⟨(h3 s H0 C cl fp).1, fun e => akd_dI rfl ((h3 s H0 C cl fp).2 e).1 ((h3 s H0 C cl fp).2 e).2⟩⟩
  · rintro K1 D o e ⟨vs, e2, hp⟩
    subst e2
    rw [emit_one] at hp
    exact ⟨D, vs, rfl, co_dK.mpr (.inl e), hp⟩
theorem cd_dC {kx vx tg iter : Expr} {ifs : List Expr} {scope : Scope} {own : List (Str × Nat)} {pos : Pos} {g : TG} {L : List Addr} {rr : Rel β} {xs : List α} {p : α → Bool} {f : α → Cell × β} (hu : X.A.units + 1 < cLine) (hc : X.calm = true) (hN : X.N.Nodup) (hi : ES X tg iter σ K L r xs) (ok : BlkOk X.N X.env.scope scope own)
    (pg : ∀ s H C cl fp, PG (blkX X scope s H C cl fp) tg g) (hz : xs.length ≤ sz) (turn : Turn1 X scope g (own.map (·.2)) ifs σ K r xs p fun B σ2 K2 a => EV B kx σ2 K2 rCell (f a).1 ∧ EV B vx σ2 K2 rr (f a).2) (hf : ∀ x, foldedSetIterable iter X.env x = pure x := by intro _; rfl) :
    CD X (.DictComp kx vx [⟨tg, iter, ifs, 0⟩] scope pos) σ K L (rDC rr) (dputs [] ((xs.filter p).map f)) := by
  refine cd_any (g := ⟨tg, iter, ifs, 0⟩) (act := fun D env => dcAct kx vx D env) (F := fun _ => fillDC rr) (em := fun a => [f a]) (p := p) (vsIn := []) hc hN rfl rfl (fun _ _ => cmp_d) (fun _ _ _ => turn_d1) na_dT (fun _ => rfl) hi ok pg (fun _ h => nomatch h) (by rw [emit_one]; exact Nat.le_trans (filter_map_len p f xs) hz) ?_ ?_ hf
  · intro D i a K2 x ea l hr
    obtain ⟨σ2, h1, h2, h3⟩ := turn i a K2 x ea l hr
    exact ⟨σ2, h1, h2, fun s H0 C cl fp => ⟨(h3 s H0 C cl fp).1, fun e => akd_dC hu rfl ((h3 s H0 C cl fp).2 e).1 ((h3 s H0 C cl fp).2 e).2⟩⟩
  · rintro K1 D o e ⟨vs, e2, hp⟩
    subst e2
    rw [emit_one] at hp
    exact ⟨D, vs, rfl, co_dT.mpr (.inl e), hp⟩
/-! ### uses -/
theorem evl_cd {e : Expr} {L : List Addr} {rr : Rel δ} {z : δ} (h : CD X e σ K L rr z) (he : eval e X.env = compOf e X.env none := by rfl) : EVL X e σ K L rr z := fun H l hL Q q pins s I => by
  rw [he]
  refine h none Q _ pins s H I l hL q fun D C s' m H' I' q' hn f => ⟨m, hn, fun h'' sb => ?_⟩
  obtain ⟨f0, f1, f2, f3, f4, f5⟩ := f
  exact ⟨.ref D, H', I'.turned (t' := s'.toks) (fun b o hb e => (sb.2 b hb).trans e) f0 f1 f3 f4 f5, rfl, q'⟩
theorem ev_cd {e : Expr} {rr : Rel δ} {z : δ} (h : CD X e σ K [] rr z) (he : eval e X.env = compOf e X.env none := by rfl) : EV X e σ K rr z := ev_lock0 (evl_cd h he)
theorem ev_cdL {e : Expr} {rr : Rel δ} {z : δ} {d : Addr} {u : HO} (hu : Dk u) (hd : co K d = some u) (h : CD X e σ K [d] rr z) (he : eval e X.env = compOf e X.env none := by rfl) : EV X e σ K rr z := ev_lock1 hu hd (evl_cd h he)
theorem sl_cd {i : Nat} {y : Str} {py spos : Pos} {e : Expr} {L : List Addr} {rr : Rel δ} {z : δ} {D : Ends} (hN : X.N.Nodup) (hy : X.N[i]? = some y) (hyl : X.env.scope.names.lookup y = some .local) (hsw : swapsWith e (some (.Name y py)) spos.line X.env = pure true) (l : Le K H) (hL : ∀ d ∈ L, ∃ o u, H d = some (.frz o u))
    (h : CD X e σ K L rr z) (k : ∀ v K' H', Nxt K H K' H' → rr.r K' v z → D.nx (σ.set i (some v)) H') (he : ∀ u, evalThenUse e X.env u = (do let _ ← compOf e X.env (some u)) := by intro _; rfl) : wS X (.Assign [.Name y py] e spos) D σ H := fun pins s I => by
  rw [exec_Assign_Name_used _ _ _ _ hsw, he]
  refine wpAny_bind (wpAny_standAt (wpAny_bind ?_))
  refine wpAny_bind (thn (h (some (assign (.Name y py) X.env)) (fun x H1 => D.nx (σ.set i (some x)) H1) (fun _ s' => SP X pins D .next s') pins s H I l hL k fun L C s' m H' I' q hn f => ?_) fun _ s' hq => wpAny_pure (wpAny_pure hq))
  show wpAny _ _ (assign (.Name y py) X.env (.ref L)) _ _ _
  refine wpAny_assign_Name (store_ok2 (v := V.ref L) I' hN hy (.inl hyl) rfl (fun s2 I2 ⟨a, sb, ha⟩ => ?_) (.inr hyl))
  obtain ⟨f0, f1, f2, f3, f4, f5⟩ := f
  have haC : C ≠ a := by
    rcases ha with z | z
    · rw [z]; exact f1
    · exact fun e => f4 y a z e.symm
  refine ⟨m, hn.sameBut sb haC, fun h3 sb3 => ?_⟩
  exact ⟨_, H', I2.turned (t' := s2.toks) (fun b o hb e => (sb3.2 b hb).trans e) f0 f1 f3 f4 f5, q⟩
theorem s_cd {i : Nat} {y : Str} {py spos : Pos} {e : Expr} {rr : Rel δ} {z : δ} {D : Ends} (hN : X.N.Nodup) (hy : X.N[i]? = some y) (l : Le K H) (h : CD X e σ K [] rr z) (k : ∀ v K' H', Nxt K H K' H' → rr.r K' v z → D.nx (σ.set i (some v)) H')
    (hyl : X.env.scope.names.lookup y = some .local := by rfl) (hsw : swapsWith e (some (.Name y py)) spos.line X.env = pure true := by rfl) (he : ∀ u, evalThenUse e X.env u = (do let _ ← compOf e X.env (some u)) := by intro _; rfl) : wS X (.Assign [.Name y py] e spos) D σ H :=
  sl_cd hN hy hyl hsw l (fun _ z => absurd z List.not_mem_nil) h k he
theorem s_cdL {i : Nat} {y : Str} {py spos : Pos} {e : Expr} {rr : Rel δ} {z : δ} {D : Ends} {d : Addr} {u : HO} (hu : Dk u) (hd : co K d = some u) (hN : X.N.Nodup) (hy : X.N[i]? = some y) (l : Le K H) (h : CD X e σ K [d] rr z) (k : ∀ v K' H', Nxt K H K' H' → rr.r K' v z → D.nx (σ.set i (some v)) H')
    (hyl : X.env.scope.names.lookup y = some .local := by rfl) (hsw : swapsWith e (some (.Name y py)) spos.line X.env = pure true := by rfl) (he : ∀ u, evalThenUse e X.env u = (do let _ ← compOf e X.env (some u)) := by intro _; rfl) : wS X (.Assign [.Name y py] e spos) D σ H := by
  rcases (co_rd hu).mp (l d u hd) with ho | ⟨o, ho⟩
  · refine PS.to (ps_lock (psW _)) ⟨d, u, ho, hu.mut, fun od => ?_⟩
    have hl : Lck d u (some od) H (upd H d (.frz od u)) := ⟨ho, rfl⟩
    refine sl_cd hN hy hyl hsw (l.trans (le_of_co (co_lock ho hu))) (fun e z => ⟨od, u, by rw [List.mem_singleton.mp z, upd_same]⟩) h (fun v K1 H1 n hv => ?_) he
    obtain ⟨Hu1, ⟨e1, e2⟩, nu⟩ := hl.nxt hu n
    exact ⟨by rw [e2, upd_same], by rw [e2, upd_upd, upd_self e1]; exact k v K1 Hu1 nu hv⟩
  · exact sl_cd hN hy hyl hsw l (fun e z => ⟨o, u, by rw [List.mem_singleton.mp z]; exact ho⟩) h k he
end
end SN
end TQF

section TQG
set_option Elab.async false
set_option linter.all false
set_option maxRecDepth 100000
set_option maxHeartbeats 4000017
/-! QG: list comprehensions of two and three clauses; dicts read and written by data; targets. -/
namespace SN
open PySem PySem.Spec PyProof.Rows L2
section
variable {X : Cx} {α β γ δ α1 α2 : Type} {σ : L2.St} {K H K' H' : Hp} {r : Rel α} {a : α} {r1 : Rel α1} {r2 : Rel α2}
/-! ### two and three clauses -/
abbrev tt {α : Type} : α → Bool := fun _ => true
theorem emit_tt {p : α → Bool} {em : α → List β} {a : α} (h : p a = true) : emit p em a = em a := if_pos h
theorem cd_l2 {elt t0 i0 t1 i1 : Expr} {f0 f1 : List Expr} {scope : Scope} {own : List (Str × Nat)} {pos : Pos} {g g1 : TG} {vs1 : List Nat} {L : List Addr} {rr : Rel β} {xs : List α} {ys : α → List α1} {p : α → Bool} {p1 : α → α1 → Bool} {f : α → α1 → β}
    (hc : X.calm = true) (hN : X.N.Nodup) (hi : ES X t0 i0 σ K L r xs) (ok : BlkOk X.N X.env.scope scope own) (pg : ∀ s H C cl fp, PG (blkX X scope s H C cl fp) t0 g) (pg1 : ∀ s H C cl fp, PG (blkX X scope s H C cl fp) t1 g1) (hv : ∀ i ∈ vs1, i ∈ own.map (·.2))
    (hz : (xs.flatMap (emit p fun a => (ys a).flatMap (emit (p1 a) fun b => [f a b]))).length ≤ sz)
    (turn : Turn1 X scope g (own.map (·.2)) f0 σ K r xs p fun B σ2 K2 a => ES B t1 i1 σ2 K2 [] r1 (ys a) ∧
      ∀ (i : Nat) (b : α1) (K3 : Hp) (y : V), (ys a)[i]? = some b → Le K2 K3 → r1.r K3 y b → ∃ σ3, GD g1 y (wipe σ2 vs1) K3 σ3 ∧ wipe σ3 vs1 = wipe σ2 vs1 ∧ ETs B f1 σ3 K3 (p1 a b) ∧ (p1 a b = true → EV B elt σ3 K3 rr (f a b)))
    (hf : ∀ x, foldedSetIterable i0 X.env x = pure x := by intro _; rfl) (hf1 : ∀ env x, foldedSetIterable i1 env x = pure x := by intro _ _; rfl) :
    CD X (.ListComp elt [⟨t0, i0, f0, 0⟩, ⟨t1, i1, f1, 0⟩] scope pos) σ K L (rLst X.K rr) (xs.flatMap (emit p fun a => (ys a).flatMap (emit (p1 a) fun b => [f a b]))) := by
  refine cd_any (g := ⟨t0, i0, f0, 0⟩) (act := fun D env => inAct (.ListComp elt [⟨t0, i0, f0, 0⟩, ⟨t1, i1, f1, 0⟩] scope pos) 1 ⟨t1, i1, f1, 0⟩ (.ref D) env) (F := fun _ => fillL rr) (em := fun a => (ys a).flatMap (emit (p1 a) fun b => [f a b])) (p := p) (vsIn := vs1) hc hN rfl rfl (fun _ _ => cmp_l) (fun _ _ _ => turn_l2o) na_list (fun _ => rfl) hi ok pg hv hz ?_ ?_ hf
  · intro D i a K2 x ea l hr
    obtain ⟨σ2, h1, h2, h3⟩ := turn i a K2 x ea l hr
    refine ⟨σ2, h1, h2, fun s H0 C cl fp => ⟨(h3 s H0 C cl fp).1, fun e => ?_⟩⟩
    obtain ⟨h4, h5⟩ := (h3 s H0 C cl fp).2 e
    refine akd_in (act := lsAct elt (.ref D) (blkX X scope s H0 C cl fp).env) (g := ⟨t1, i1, f1, 0⟩) rfl hc cmp_l rfl rfl (fun _ => turn_l2i) h4 (pg1 s H0 C cl fp) (fun _ h => absurd h List.not_mem_nil) (fun i b K3 y eb l3 hr3 => ?_) (hf1 _)
    obtain ⟨σ3, j1, j2, j3, j4⟩ := h5 i b K3 y eb l3 hr3
    exact ⟨σ3, j1, j2, j3, fun e => akd_ls rfl (j4 e)⟩
  · rintro K1 D o e ⟨vs, e2, hp⟩
    subst e2
    exact ⟨D, vs, rfl, SqL.of e, hp⟩
theorem cd_l3 {elt t0 i0 t1 i1 t2 i2 : Expr} {f0 f1 f2 : List Expr} {scope : Scope} {own : List (Str × Nat)} {pos : Pos} {g g1 g2 : TG} {vs1 vs2 : List Nat} {L : List Addr} {rr : Rel β} {xs : List α} {ys : α → List α1} {zs : α → α1 → List α2} {p : α → Bool} {p1 : α → α1 → Bool} {p2 : α → α1 → α2 → Bool} {f : α → α1 → α2 → β}
    (hc : X.calm = true) (hN : X.N.Nodup) (hi : ES X t0 i0 σ K L r xs) (ok : BlkOk X.N X.env.scope scope own) (pg : ∀ s H C cl fp, PG (blkX X scope s H C cl fp) t0 g) (pg1 : ∀ s H C cl fp, PG (blkX X scope s H C cl fp) t1 g1) (pg2 : ∀ s H C cl fp, PG (blkX X scope s H C cl fp) t2 g2) (hv : ∀ i ∈ vs1, i ∈ own.map (·.2)) (hv2 : ∀ i ∈ vs2, i ∈ vs1)
    (hz : (xs.flatMap (emit p fun a => (ys a).flatMap (emit (p1 a) fun b => (zs a b).flatMap (emit (p2 a b) fun c => [f a b c])))).length ≤ sz)
    (turn : Turn1 X scope g (own.map (·.2)) f0 σ K r xs p fun B σ2 K2 a => ES B t1 i1 σ2 K2 [] r1 (ys a) ∧
      ∀ (i : Nat) (b : α1) (K3 : Hp) (y : V), (ys a)[i]? = some b → Le K2 K3 → r1.r K3 y b → ∃ σ3, GD g1 y (wipe σ2 vs1) K3 σ3 ∧ wipe σ3 vs1 = wipe σ2 vs1 ∧ ETs B f1 σ3 K3 (p1 a b) ∧ (p1 a b = true → ES B t2 i2 σ3 K3 [] r2 (zs a b) ∧
      ∀ (j : Nat) (c : α2) (K4 : Hp) (z : V), (zs a b)[j]? = some c → Le K3 K4 → r2.r K4 z c → ∃ σ4, GD g2 z (wipe σ3 vs2) K4 σ4 ∧ wipe σ4 vs2 = wipe σ3 vs2 ∧ ETs B f2 σ4 K4 (p2 a b c) ∧ (p2 a b c = true → EV B elt σ4 K4 rr (f a b c))))
    (hf : ∀ x, foldedSetIterable i0 X.env x = pure x := by intro _; rfl) (hf1 : ∀ env x, foldedSetIterable i1 env x = pure x := by intro _ _; rfl) (hf2 : ∀ env x, foldedSetIterable i2 env x = pure x := by intro _ _; rfl) :
    CD X (.ListComp elt [⟨t0, i0, f0, 0⟩, ⟨t1, i1, f1, 0⟩, ⟨t2, i2, f2, 0⟩] scope pos) σ K L (rLst X.K rr) (xs.flatMap (emit p fun a => (ys a).flatMap (emit (p1 a) fun b => (zs a b).flatMap (emit (p2 a b) fun c => [f a b c])))) := by
  refine cd_any (g := ⟨t0, i0, f0, 0⟩) (act := fun D env => inAct (.ListComp elt [⟨t0, i0, f0, 0⟩, ⟨t1, i1, f1, 0⟩, ⟨t2, i2, f2, 0⟩] scope pos) 1 ⟨t1, i1, f1, 0⟩ (.ref D) env) (F := fun _ => fillL rr) (em := fun a => (ys a).flatMap (emit (p1 a) fun b => (zs a b).flatMap (emit (p2 a b) fun c => [f a b c]))) (p := p) (vsIn := vs1) hc hN rfl rfl (fun _ _ => cmp_l) (fun _ _ _ => turn_l3o) na_list (fun _ => rfl) hi ok pg hv hz ?_ ?_ hf
  · intro D i a K2 x ea l hr
    obtain ⟨σ2, h1, h2, h3⟩ := turn i a K2 x ea l hr
    refine ⟨σ2, h1, h2, fun s H0 C cl fp => ⟨(h3 s H0 C cl fp).1, fun e => ?_⟩⟩
    obtain ⟨h4, h5⟩ := (h3 s H0 C cl fp).2 e
    refine akd_in (act := inAct (.ListComp elt [⟨t0, i0, f0, 0⟩, ⟨t1, i1, f1, 0⟩, ⟨t2, i2, f2, 0⟩] scope pos) 2 ⟨t2, i2, f2, 0⟩ (.ref D) (blkX X scope s H0 C cl fp).env) (g := ⟨t1, i1, f1, 0⟩) rfl hc cmp_l rfl rfl (fun _ => turn_l3m) h4 (pg1 s H0 C cl fp) hv2 (fun i b K3 y eb l3 hr3 => ?_) (hf1 _)
    obtain ⟨σ3, j1, j2, j3, j4⟩ := h5 i b K3 y eb l3 hr3
    refine ⟨σ3, j1, j2, j3, fun e => ?_⟩
    obtain ⟨h6, h7⟩ := j4 e
    refine akd_in (act := lsAct elt (.ref D) (blkX X scope s H0 C cl fp).env) (g := ⟨t2, i2, f2, 0⟩) rfl hc cmp_l rfl rfl (fun _ => turn_l3i) h6 (pg2 s H0 C cl fp) (fun _ h => absurd h List.not_mem_nil) (fun j c K4 z ec l4 hr4 => ?_) (hf2 _)
    obtain ⟨σ4, k1, k2, k3, k4⟩ := h7 j c K4 z ec l4 hr4
    exact ⟨σ4, k1, k2, k3, fun e => akd_ls rfl (k4 e)⟩
  · rintro K1 D o e ⟨vs, e2, hp⟩
    subst e2
    exact ⟨D, vs, rfl, SqL.of e, hp⟩
theorem flat_one {xs : List α} {f : α → List β} {g : α → β} (h : ∀ a ∈ xs, f a = [g a]) : xs.flatMap f = xs.map g := by
  induction xs with
  | nil => rfl
  | cons x xs ih =>
    rw [List.flatMap_cons, List.map_cons, h x (List.mem_cons_self ..), ih fun a ha => h a (List.mem_cons_of_mem _ ha)]
    rfl

/-! ### targets -/
theorem wipe_set {σ : L2.St} {i : Nat} {x : Option V} {vs : List Nat} (h : i ∈ vs) : wipe (σ.set i x) vs = wipe σ vs := by
  apply List.ext_getElem?
  intro j
  rw [wipe_get, wipe_get, List.getElem?_set]
  by_cases e : j ∈ vs
  · rw [if_pos e, if_pos e]
    by_cases z : i = j
    · subst z
      by_cases hl : i < σ.length <;> simp [hl]
    · rw [if_neg z]
  · have z : i ≠ j := fun z => e (z ▸ h)
    rw [if_neg e, if_neg e, if_neg z]
theorem wipe_t {σ : L2.St} {i : Nat} {x : Option V} {vs : List Nat} (h : i ∈ vs) : wipe ((wipe σ vs).set i x) vs = wipe σ vs := by rw [wipe_set h, wipe_wipe]
theorem gd_name {i : Nat} {x : V} {σ : L2.St} {K : Hp} : GD (gName i) x σ K (σ.set i (some x)) := fun _ _ _ q => q

/-! ### dicts that are known -/
theorem rDC_get {r : Rel α} {v : V} {l : List (Cell × α)} {K H : Hp} (h : (rDC r).r K v l) (le : Le K H) {c : Cell} {u : V} (hc : rCell.r K u c) : ∃ p, v = .ref p ∧ ((dget l c = none ∧ DGet H p u none) ∨ ∃ a w, dget l c = some a ∧ DGet H p u (some w) ∧ r.r K w a) := by
  obtain ⟨p, kvs, e, h1, h2⟩ := h
  obtain ⟨b, e2, h3⟩ := hc
  subst e2
  have hb : H b = some (.tup ((ck c).map kV)) := co_tup.mp (le b _ h3)
  have hd := co_dT.mp (le p _ h1)
  refine ⟨p, e, ?_⟩
  rcases paired_dget (f := ck) ck_inj (R := r.r K) (k := c) h2 with ⟨g1, g2⟩ | ⟨a, w, g1, g2, g3⟩
  · exact .inl ⟨g1, .inr ⟨kvs, ck c, b, hd, rfl, hb, g2.symm⟩⟩
  · exact .inr ⟨a, w, g1, .inr ⟨kvs, ck c, b, hd, rfl, hb, g2.symm⟩, g3⟩
theorem rDI_get {r : Rel α} {v : V} {l : List (Int × α)} {K H : Hp} (h : (rDI r).r K v l) (le : Le K H) {c : Int} {u : V} (hc : rInt.r K u c) : ∃ p, v = .ref p ∧ ((dget l c = none ∧ DGet H p u none) ∨ ∃ a w, dget l c = some a ∧ DGet H p u (some w) ∧ r.r K w a) := by
  obtain ⟨p, kvs, e, h1, h2⟩ := h
  obtain rfl : u = .int c := hc
  have hd := co_dK.mp (le p _ h1)
  refine ⟨p, e, ?_⟩
  rcases paired_dget (f := Sum.inl) inl_inj (R := r.r K) (k := c) h2 with ⟨g1, g2⟩ | ⟨a, w, g1, g2, g3⟩
  · exact .inl ⟨g1, .inl ⟨kvs, .inl c, hd, rfl, g2.symm⟩⟩
  · exact .inr ⟨a, w, g1, .inl ⟨kvs, .inl c, hd, rfl, g2.symm⟩, g3⟩
section
variable {o i : Expr} {pos : Pos}
theorem ev_dgetC {l : List (Cell × α)} {c : Cell} (hu : X.A.units + 1 < cLine) (ho : EV X o σ K (rDC r) l) (hi : EV X i σ K rCell c) (hg : dget l c = some a) (hs : NoSl i := by exact fun _ _ => rfl) : EV X (.Subscript o i pos) σ K r a := fun H le Q q =>
  PE.to (pe_dget hu (peW o) (peW i) hs) (ho H le _ fun v K1 H1 n1 hv => hi.mono n1.le H1 n1.in_ _ fun u K2 H2 n2 hc => by
    obtain ⟨p, e, ⟨g1, _⟩ | ⟨a', w, g1, g2, g3⟩⟩ := rDC_get ((rDC r).mono n2.le hv) n2.in_ hc
    · rw [hg] at g1; cases g1
    · rw [hg] at g1; cases g1
      exact ⟨p, w, e, g2, q w K2 H2 (n1.trans n2) g3⟩)
theorem ev_dgetI {l : List (Int × α)} {c : Int} (hu : X.A.units + 1 < cLine) (ho : EV X o σ K (rDI r) l) (hi : EV X i σ K rInt c) (hg : dget l c = some a) (hs : NoSl i := by exact fun _ _ => rfl) : EV X (.Subscript o i pos) σ K r a := fun H le Q q =>
  PE.to (pe_dget hu (peW o) (peW i) hs) (ho H le _ fun v K1 H1 n1 hv => hi.mono n1.le H1 n1.in_ _ fun u K2 H2 n2 hc => by
    obtain ⟨p, e, ⟨g1, _⟩ | ⟨a', w, g1, g2, g3⟩⟩ := rDI_get ((rDI r).mono n2.le hv) n2.in_ hc
    · rw [hg] at g1; cases g1
    · rw [hg] at g1; cases g1
      exact ⟨p, w, e, g2, q w K2 H2 (n1.trans n2) g3⟩)
theorem pe_cmpPC {a b : Expr} {op : CmpOp} {pos : Pos} {t : TE} (h : PC X op a b t) (hm : behindInMarks op b = false) : PE X (.Compare a [op] [b] pos) t := pe_cmp h hm
theorem ev_inC {l : List (Cell × α)} {c : Cell} (hu : X.A.units + 1 < cLine) (hi : EV X i σ K rCell c) (ho : EV X o σ K (rDC r) l) (hm : behindInMarks .In o = false := by rfl) : EV X (.Compare i [.In] [o] pos) σ K rBl (dget l c).isSome := fun H le Q q =>
  PE.to (pe_cmpPC (pc_din hu (peW i) (peW o)) hm) (hi H le _ fun u K1 H1 n1 hc => ho.mono n1.le H1 n1.in_ _ fun v K2 H2 n2 hv => by
    obtain ⟨p, e, ⟨g1, g2⟩ | ⟨a', w, g1, g2, g3⟩⟩ := rDC_get hv n2.in_ (rCell.mono n2.le hc)
    · exact ⟨p, _, e, g2, q _ K2 H2 (n1.trans n2) (by rw [g1]; rfl)⟩
    · exact ⟨p, _, e, g2, q _ K2 H2 (n1.trans n2) (by rw [g1]; rfl)⟩)
theorem et_inC {l : List (Cell × α)} {c : Cell} (hu : X.A.units + 1 < cLine) (hi : EV X i σ K rCell c) (ho : EV X o σ K (rDC r) l) (hm : behindInMarks .In o = false := by rfl) : ET X (.Compare i [.In] [o] pos) σ K (dget l c).isSome := fun H le Q q =>
  PT.to (pt_cmp (pc_din hu (peW i) (peW o)) hm) (hi H le _ fun u K1 H1 n1 hc => ho.mono n1.le H1 n1.in_ _ fun v K2 H2 n2 hv => by
    obtain ⟨p, e, ⟨g1, g2⟩ | ⟨a', w, g1, g2, g3⟩⟩ := rDC_get hv n2.in_ (rCell.mono n2.le hc)
    · exact ⟨p, _, e, g2, _, rfl, by have z := q H2 (n1.trans n2).same; rw [g1] at z; exact z⟩
    · exact ⟨p, _, e, g2, _, rfl, by have z := q H2 (n1.trans n2).same; rw [g1] at z; exact z⟩)
theorem et_notinC {l : List (Cell × α)} {c : Cell} (hu : X.A.units + 1 < cLine) (hi : EV X i σ K rCell c) (ho : EV X o σ K (rDC r) l) (hm : behindInMarks .NotIn o = false := by rfl) : ET X (.Compare i [.NotIn] [o] pos) σ K (!(dget l c).isSome) := fun H le Q q =>
  PT.to (pt_cmp (pc_dnotin hu (peW i) (peW o)) hm) (hi H le _ fun u K1 H1 n1 hc => ho.mono n1.le H1 n1.in_ _ fun v K2 H2 n2 hv => by
    obtain ⟨p, e, ⟨g1, g2⟩ | ⟨a', w, g1, g2, g3⟩⟩ := rDC_get hv n2.in_ (rCell.mono n2.le hc)
    · exact ⟨p, _, e, g2, _, rfl, by have z := q H2 (n1.trans n2).same; rw [g1] at z; exact z⟩
    · exact ⟨p, _, e, g2, _, rfl, by have z := q H2 (n1.trans n2).same; rw [g1] at z; exact z⟩)
/-- a dict of the module -/
def rKD (F : PySem.W.Frag) (w : World) : Rel (List (Str × V)) := ⟨fun _ v l => ∃ p, v = .ref p ∧ ∀ kv ∈ l, KDct F w p kv.1 kv.2, fun _ h => h⟩
theorem ev_kd {l : List (Str × V)} {z : Str} {u : V} (ho : EV X o σ K (rKD X.K X.w) l) (hi : EV X i σ K rStr z) (hg : (z, u) ∈ l) (hr : ∀ K1, r.r K1 u a) (hs : PlainIx i := by exact fun _ _ => rfl) : EV X (.Subscript o i pos) σ K r a := fun H le Q q =>
  PE.to (pe_ix ix_kdict (peW o) (peW i) hs) (ho H le _ fun v K1 H1 n1 ⟨p, e, hv⟩ => hi.mono n1.le H1 n1.in_ _ fun w K2 H2 n2 hw => ⟨p, z, u, e, hw, hv _ hg, q u K2 H2 (n1.trans n2) (hr K2)⟩)

/-! ### dicts that are being filled -/
theorem s_dputC {value : Expr} {pos' : Pos} {D : Ends} {p : Addr} {kvs : List (List Key × V)} {l : List (Cell × α)} {c : Cell} {a : α} (hu : X.A.units + 1 < cLine) (le : Le K (era H p)) (hd : H p = some (.dT kvs)) (hp : Paired (fun (kv : List Key × V) (ka : Cell × α) => kv.1 = ck ka.1 ∧ r.r K kv.2 ka.2) kvs l) (hz : l.length < sz)
    (hv : EV X value σ K r a) (ho : EV X o σ K rVal (.ref p)) (hi : EV X i σ K rCell c) (k : ∀ K' H' kvs', Nxt K (era H p) K' (era H' p) → H' p = some (.dT kvs') → Paired (fun (kv : List Key × V) (ka : Cell × α) => kv.1 = ck ka.1 ∧ r.r K' kv.2 ka.2) kvs' (dput l c a) → D.nx σ H')
    (hs : swapsWith value (some (.Subscript o i pos')) pos.line X.env = pure false := by rfl) : wS X (.Assign [.Subscript o i pos'] value pos) D σ H :=
  PS.to (ps_dput hu (peW o) (peW i) (peW value) hs) (hv H (era_le le) _ fun v K1 H1 n1 hv => ho.mono n1.le H1 n1.in_ _ fun w K2 H2 n2 hw => hi.mono (n1.trans n2).le H2 n2.in_ _ fun u K3 H3 n3 ⟨b, e, hc⟩ => by
    have n := (n1.trans n2).trans n3
    have hk := le_era_none le
    have hd3 := n.same p _ hd
    have e3 : (1000000 : Nat) < sizeLine := by decide
    have el := paired_len hp
    obtain rfl : w = .ref p := hw
    subst e
    refine ⟨p, _, rfl, DPut.t (k := ck c) hd3 (co_tup.mp (n3.in_ b _ hc)) (by simp only [sz] at hz; omega), k K3 _ _ (n.era hk hd rfl).updE upd_same ?_⟩
    exact paired_put (f := ck) ck_inj (R := r.r K3) (r.mono (n2.trans n3).le hv) (Paired.imp (fun _ _ z => ⟨z.1, r.mono n.le z.2⟩) hp))
theorem s_dputI {value : Expr} {pos' : Pos} {D : Ends} {p : Addr} {kvs : List (Key × V)} {l : List (Int × α)} {c : Int} {a : α} (hu : X.A.units + 1 < cLine) (le : Le K (era H p)) (hd : H p = some (.dK kvs)) (hp : Paired (fun (kv : Key × V) (ka : Int × α) => kv.1 = .inl ka.1 ∧ r.r K kv.2 ka.2) kvs l) (hz : l.length < sz)
    (hv : EV X value σ K r a) (ho : EV X o σ K rVal (.ref p)) (hi : EV X i σ K rInt c) (k : ∀ K' H' kvs', Nxt K (era H p) K' (era H' p) → H' p = some (.dK kvs') → Paired (fun (kv : Key × V) (ka : Int × α) => kv.1 = .inl ka.1 ∧ r.r K' kv.2 ka.2) kvs' (dput l c a) → D.nx σ H')
    (hs : swapsWith value (some (.Subscript o i pos')) pos.line X.env = pure false := by rfl) : wS X (.Assign [.Subscript o i pos'] value pos) D σ H :=
  PS.to (ps_dput hu (peW o) (peW i) (peW value) hs) (hv H (era_le le) _ fun v K1 H1 n1 hv => ho.mono n1.le H1 n1.in_ _ fun w K2 H2 n2 hw => hi.mono (n1.trans n2).le H2 n2.in_ _ fun u K3 H3 n3 hc => by
    have n := (n1.trans n2).trans n3
    have hk := le_era_none le
    have hd3 := n.same p _ hd
    have e3 : (1000000 : Nat) < sizeLine := by decide
    have el := paired_len hp
    obtain rfl : w = .ref p := hw
    obtain rfl : u = .int c := hc
    refine ⟨p, _, rfl, DPut.k (k := .inl c) hd3 (by simp only [sz] at hz; omega), k K3 _ _ (n.era hk hd rfl).updE upd_same ?_⟩
    exact paired_put (f := Sum.inl) inl_inj (R := r.r K3) (r.mono (n2.trans n3).le hv) (Paired.imp (fun _ _ z => ⟨z.1, r.mono n.le z.2⟩) hp))
end
end
end SN
end TQG

section TQH
set_option Elab.async false
set_option linter.all false
set_option maxRecDepth 100000
set_option maxHeartbeats 4000017
/-! QH: slices, stars, sorted, zip, enumerate, targets of several names, by data. -/
namespace SN
open PySem PySem.Spec PyProof.Rows L2
section
variable {X : Cx} {α β γ δ : Type} {σ : L2.St} {K H K' H' : Hp} {r : Rel α} {a : α} {r1 : Rel β} {r2 : Rel γ}
theorem Paired.drop {F : α → β → Prop} : ∀ {l : List α} {m : List β} (n : Nat), Paired F l m → Paired F (l.drop n) (m.drop n)
  | _, _, 0, h => h
  | _, _, _ + 1, .nil => .nil
  | _, _, n + 1, .cons _ t => Paired.drop n t
theorem Paired.take {F : α → β → Prop} : ∀ {l : List α} {m : List β} (n : Nat), Paired F l m → Paired F (l.take n) (m.take n)
  | _, _, 0, _ => .nil
  | _, _, _ + 1, .nil => .nil
  | _, _, n + 1, .cons h t => .cons h (Paired.take n t)
theorem paired_app {F : α → β → Prop} : ∀ {l l2 : List α} {m m2 : List β}, Paired F l m → Paired F l2 m2 → Paired F (l ++ l2) (m ++ m2)
  | _, _, _, _, .nil, h => h
  | _, _, _, _, .cons a t, h => .cons a (paired_app t h)
/-! ### comprehensions without a test -/
def Turn0 (X : Cx) (scope : Scope) (tg : TG) (vs : List Nat) (σ : L2.St) (K : Hp) {α : Type} (r : Rel α) (xs : List α) (P : (B : Cx) → L2.St → Hp → α → Prop) : Prop :=
  ∀ (i : Nat) (a : α) (K2 : Hp) (x : V), xs[i]? = some a → Le K K2 → r.r K2 x a → ∃ σ2, GD tg x (wipe σ vs) K2 σ2 ∧ wipe σ2 vs = wipe σ vs ∧ ∀ s H0 C cl fp, P (blkX X scope s H0 C cl fp) σ2 K2 a
theorem filter_t {α : Type} (xs : List α) : xs.filter tt = xs := List.filter_eq_self.mpr fun _ _ => rfl
theorem Turn0.t1 {scope : Scope} {tg : TG} {vs : List Nat} {xs : List α} {P : (B : Cx) → L2.St → Hp → α → Prop} (t : Turn0 X scope tg vs σ K r xs P) : Turn1 X scope tg vs [] σ K r xs tt P := fun i a K2 x ea l hr =>
  let ⟨σ2, h1, h2, h3⟩ := t i a K2 x ea l hr
  ⟨σ2, h1, h2, fun s H0 C cl fp => ⟨rfl, fun _ => h3 s H0 C cl fp⟩⟩
section
variable {tg iter elt kx vx : Expr} {scope : Scope} {own : List (Str × Nat)} {pos : Pos} {g : TG} {L : List Addr} {rr : Rel δ} {xs : List α}
theorem cd_l1t {f : α → δ} (hc : X.calm = true) (hN : X.N.Nodup) (hi : ES X tg iter σ K L r xs) (ok : BlkOk X.N X.env.scope scope own) (pg : ∀ s H C cl fp, PG (blkX X scope s H C cl fp) tg g) (hz : xs.length ≤ sz)
    (turn : Turn0 X scope g (own.map (·.2)) σ K r xs fun B σ2 K2 a => EV B elt σ2 K2 rr (f a)) (hf : ∀ x, foldedSetIterable iter X.env x = pure x := by intro _; rfl) : CD X (.ListComp elt [⟨tg, iter, [], 0⟩] scope pos) σ K L (rLst X.K rr) (xs.map f) := by
  have z := cd_l1 (pos := pos) (ifs := []) (p := tt) (f := f) hc hN hi ok pg hz turn.t1 hf
  rw [filter_t] at z
  exact z
theorem cd_dIt {f : α → Int × δ} (hc : X.calm = true) (hN : X.N.Nodup) (hi : ES X tg iter σ K L r xs) (ok : BlkOk X.N X.env.scope scope own) (pg : ∀ s H C cl fp, PG (blkX X scope s H C cl fp) tg g) (hz : xs.length ≤ sz)
    (turn : Turn0 X scope g (own.map (·.2)) σ K r xs fun B σ2 K2 a => EV B kx σ2 K2 rInt (f a).1 ∧ EV B vx σ2 K2 rr (f a).2) (hf : ∀ x, foldedSetIterable iter X.env x = pure x := by intro _; rfl) :
    CD X (.DictComp kx vx [⟨tg, iter, [], 0⟩] scope pos) σ K L (rDI rr) (dputs [] (xs.map f)) := by
  have z := cd_dI (pos := pos) (ifs := []) (p := tt) (f := f) hc hN hi ok pg hz turn.t1 hf
  rw [filter_t] at z
  exact z
theorem cd_dCt {f : α → Cell × δ} (hu : X.A.units + 1 < cLine) (hc : X.calm = true) (hN : X.N.Nodup) (hi : ES X tg iter σ K L r xs) (ok : BlkOk X.N X.env.scope scope own) (pg : ∀ s H C cl fp, PG (blkX X scope s H C cl fp) tg g) (hz : xs.length ≤ sz)
    (turn : Turn0 X scope g (own.map (·.2)) σ K r xs fun B σ2 K2 a => EV B kx σ2 K2 rCell (f a).1 ∧ EV B vx σ2 K2 rr (f a).2) (hf : ∀ x, foldedSetIterable iter X.env x = pure x := by intro _; rfl) :
    CD X (.DictComp kx vx [⟨tg, iter, [], 0⟩] scope pos) σ K L (rDC rr) (dputs [] (xs.map f)) := by
  have z := cd_dC (pos := pos) (ifs := []) (p := tt) (f := f) hu hc hN hi ok pg hz turn.t1 hf
  rw [filter_t] at z
  exact z
end
/-! ### slices x[n:] -/
theorem cut_from (vs : List V) (n : Nat) : cutV vs (some (n : Int)) none = vs.drop n := by
  unfold cutV
  rw [HT.sIx_nat, HT.sIx_none, List.take_of_length_le (by simp)]
  by_cases h : n ≤ vs.length
  · rw [Nat.min_eq_left h]
  · rw [Nat.min_eq_right (by omega), List.drop_eq_nil_of_le (Nat.le_refl _), List.drop_eq_nil_of_le (by omega)]
theorem ev_dropT {e i : Expr} {p2 pos : Pos} {l : List α} {n : Nat} (h : EV X e σ K (rTupL X.K r) l) (hi : EV X i σ K rInt (n : Int)) : EV X (.Subscript e (.Slice (some i) none none p2) pos) σ K (rTupL X.K r) (l.drop n) := fun H le Q q =>
  PE.to (pe_slice sl_tupA (peW e) (po_some (peW i)) po_none) (h H le _ fun v K1 H1 n1 ⟨p, vs, e1, h1, h2⟩ => hi.mono n1.le H1 n1.in_ _ fun u K2 H2 n2 hu => by
    have hl := paired_len h2
    refine ⟨(n : Int), hu, p, vs, e1, le_T (n2.le.trans n2.in_) h1, fun hw => ?_, fun hw z hz => ?_⟩
    · have e0 : n = 0 ∨ vs.length = 0 := by
        have := hw.1
        rw [HT.sIx_nat] at this
        omega
      refine q _ K2 H2 (n1.trans n2) ⟨p, vs, rfl, le_T n2.le h1, ?_⟩
      have e3 : l.drop n = l := by
        rcases e0 with z | z
        · rw [z]; rfl
        · have : l = [] := List.eq_nil_of_length_eq_zero (by omega)
          rw [this]; simp
      rw [e3]
      exact Paired.imp (fun _ _ z => r.mono n2.le z) h2
    · refine q _ _ _ ((n1.trans n2).trans (.new n2.in_ hz)) ⟨z, _, rfl, SqT.of upd_same, ?_⟩
      have e2 : cutV vs (some (n : Int)) none = vs.drop n := by
        exact cut_from vs n
      rw [e2]
      exact Paired.drop n (Paired.imp (fun _ _ z => r.mono (n2.le.trans (le_new' (n2.in_.fresh hz))) z) h2))
theorem ev_dropL {e i : Expr} {p2 pos : Pos} {l : List α} {n : Nat} (h : EV X e σ K (rLst X.K r) l) (hi : EV X i σ K rInt (n : Int)) : EV X (.Subscript e (.Slice (some i) none none p2) pos) σ K (rLst X.K r) (l.drop n) := fun H le Q q =>
  PE.to (pe_slice sl_list (peW e) (po_some (peW i)) po_none) (h H le _ fun v K1 H1 n1 ⟨p, vs, e1, h1, h2⟩ => hi.mono n1.le H1 n1.in_ _ fun u K2 H2 n2 hu => by
    have hl := paired_len h2
    refine ⟨(n : Int), hu, p, vs, e1, le_L (n2.le.trans n2.in_) h1, fun z hz => ?_⟩
    refine q _ _ _ ((n1.trans n2).trans (.new n2.in_ hz)) ⟨z, _, rfl, SqL.of upd_same, ?_⟩
    have e2 : cutV vs (some (n : Int)) none = vs.drop n := by
      exact cut_from vs n
    rw [e2]
    exact Paired.drop n (Paired.imp (fun _ _ z => r.mono (n2.le.trans (le_new' (n2.in_.fresh hz))) z) h2))
/-- c[:j] and c[j:] of a triple's values -/
theorem ev_cellTo {e i : Expr} {p2 pos : Pos} {c : Cell} {j : Nat} (h : EV X e σ K rCell c) (hi : EV X i σ K rInt (j : Int)) (hj : j < 3) : EV X (.Subscript e (.Slice none (some i) none p2) pos) σ K (rTupL X.K rInt) ([c.1, c.2.1, c.2.2].take j) := fun H le Q q =>
  PE.to (pe_slice sl_tupA (peW e) po_none (po_some (peW i))) (h H le _ fun v K1 H1 n1 ⟨p, e1, h1⟩ => hi.mono n1.le H1 n1.in_ _ fun u K2 H2 n2 hu => by
    refine ⟨(j : Int), hu, p, _, e1, SqT.of (co_tup.mp (n2.in_ p _ (n2.le p _ h1))), fun hw => ?_, fun hw z hz => ?_⟩
    · have := hw.2
      rw [HT.sIx_nat] at this
      simp at this
      omega
    · refine q _ _ _ ((n1.trans n2).trans (.new n2.in_ hz)) ⟨z, _, rfl, SqT.of upd_same, ?_⟩
      have e2 : cutV [V.int c.1, .int c.2.1, .int c.2.2] none (some (j : Int)) = ([c.1, c.2.1, c.2.2].take j).map V.int := by
        unfold cutV
        rw [HT.sIx_nat, HT.sIx_none, List.map_take]
        simp [Nat.min_eq_left (show j ≤ 3 by omega)]
      rw [e2]
      exact paired_of_int _)
theorem ev_cellFrom {e i : Expr} {p2 pos : Pos} {c : Cell} {j : Nat} (h : EV X e σ K rCell c) (hi : EV X i σ K rInt (j : Int)) (hj : j ≤ 3) (h0 : 0 < j) : EV X (.Subscript e (.Slice (some i) none none p2) pos) σ K (rTupL X.K rInt) ([c.1, c.2.1, c.2.2].drop j) := fun H le Q q =>
  PE.to (pe_slice sl_tupA (peW e) (po_some (peW i)) po_none) (h H le _ fun v K1 H1 n1 ⟨p, e1, h1⟩ => hi.mono n1.le H1 n1.in_ _ fun u K2 H2 n2 hu => by
    refine ⟨(j : Int), hu, p, _, e1, SqT.of (co_tup.mp (n2.in_ p _ (n2.le p _ h1))), fun hw => ?_, fun hw z hz => ?_⟩
    · have := hw.1
      rw [HT.sIx_nat] at this
      simp at this
      omega
    · refine q _ _ _ ((n1.trans n2).trans (.new n2.in_ hz)) ⟨z, _, rfl, SqT.of upd_same, ?_⟩
      have e2 : cutV [V.int c.1, .int c.2.1, .int c.2.2] (some (j : Int)) none = ([c.1, c.2.1, c.2.2].drop j).map V.int := by
        unfold cutV
        rw [HT.sIx_nat, HT.sIx_none, List.map_drop, List.take_of_length_le (by simp)]
        simp [Nat.min_eq_left (show j ≤ 3 by omega)]
      rw [e2]
      exact paired_of_int _)

/-- list(range(a, b)) -/
theorem rgV_rng (a b : Int) : rgV a b = (rng a b).map V.int := by
  unfold rgV rng
  rw [List.map_map]
  rfl
theorem ev_listRg {a b : Expr} {p1 p2 pos pos2 : Pos} {lo hi : Int} (hc : X.calm = true) (hm : X.mg "list" = none) (hm2 : X.mg "range" = none) (ha : EV X a σ K rInt lo) (hb : EV X b σ K rInt hi) (ok : RgOk lo hi) (hg : Gl X "list" := by rfl) (hg2 : Gl X "range" := by rfl)
    (na : starEach [a, b] X.env = (false, eval a X.env) :: starEach [b] X.env := by rfl) (nb : starEach [b] X.env = (false, eval b X.env) :: starEach [] X.env := by rfl) (hp : (backTo pos (starEach [b] X.env)).any (·.1) = false := by rfl)
    (nc : starEach [.Call (.Name "range" p2) [a, b] [] pos] X.env = (false, eval (.Call (.Name "range" p2) [a, b] [] pos) X.env) :: starEach [] X.env := by rfl) :
    EV X (.Call (.Name "list" p1) [.Call (.Name "range" p2) [a, b] [] pos] [] pos2) σ K (rLst X.K rInt) (rng lo hi) := fun H le Q q =>
  PE.to (pe_listRg hc hg hm (prg_2 hg2 hm2 (peW a) (peW b) na nb hp) nc) (ha H le _ fun u K1 H1 n1 hu => hb.mono n1.le H1 n1.in_ _ fun v K2 H2 n2 hv => ⟨lo, hi, hu, hv, ok, fun z hz => q _ _ _ ((n1.trans n2).trans (.new n2.in_ hz)) ⟨z, _, rfl, SqL.of upd_same, by rw [rgV_rng]; exact paired_of_int _⟩⟩)

/-! ### stars in displays -/
/-- several like arguments, then the rest -/
def PCs {α : Type} (r : Rel α) (l : List α) (P : List V → Hp → Prop) : List V → Hp → Prop := fun vs K => ∃ ws rest, vs = ws ++ rest ∧ Paired (r.r K) ws l ∧ P rest K
theorem mo_star {l : List α} {P : List V → Hp → Prop} (h : Mo P) : Mo (PCs r l P) := fun vs K K' le ⟨v, rest, e, h1, h2⟩ => ⟨v, rest, e, Paired.imp (fun _ _ z => r.mono le z) h1, h rest K K' le h2⟩
theorem ea_starT {e : Expr} {es : List Expr} {p : Pos} {l : List α} {P : List V → Hp → Prop} (h : EV X e σ K (rTupL X.K r) l) (ht : EA X es σ K P) (hP : Mo P) (hs : starEach (.Starred e p :: es) X.env = (true, eval e X.env) :: starEach es X.env := by rfl) : EA X (.Starred e p :: es) σ K (PCs r l P) := fun H le Q q =>
  PA.to (StX.pa_star (peW e) (paW es) hs) (h H le _ fun v K2 H2 n2 ⟨z, vs, e1, h1, h2⟩ => ⟨z, vs, e1, .inl (le_T n2.in_ h1), ht.mono hP n2.le H2 n2.in_ _ fun ys K3 H3 n3 hp => q _ K3 H3 (n2.trans n3) ⟨vs, ys, rfl, Paired.imp (fun _ _ z => r.mono n3.le z) h2, hp⟩⟩)

/-! ### sorted -/
def insI (x : Int) : List Int → List Int
  | [] => [x]
  | y :: l => if x ≤ y then x :: y :: l else y :: insI x l
def sortZ : List Int → List Int
  | [] => []
  | x :: l => insI x (sortZ l)
theorem insI_perm (x : Int) : ∀ l, (insI x l).Perm (x :: l)
  | [] => .refl _
  | y :: l => by
    unfold insI
    split
    · exact .refl _
    · exact (List.Perm.cons y (insI_perm x l)).trans (List.Perm.swap x y l)
theorem sortZ_perm : ∀ l, (sortZ l).Perm l
  | [] => .refl _
  | x :: l => (insI_perm x _).trans (List.Perm.cons x (sortZ_perm l))
theorem insI_sorted (x : Int) : ∀ {l : List Int}, l.Pairwise (· ≤ ·) → (insI x l).Pairwise (· ≤ ·)
  | [], _ => by simp [insI]
  | y :: l, h => by
    unfold insI
    obtain ⟨h1, h2⟩ := List.pairwise_cons.mp h
    split
    · rename_i e
      exact List.pairwise_cons.mpr ⟨fun z hz => by
        rcases List.mem_cons.mp hz with rfl | hz
        · exact e
        · exact Int.le_trans e (h1 z hz), h⟩
    · rename_i e
      refine List.pairwise_cons.mpr ⟨fun z hz => ?_, insI_sorted x h2⟩
      rcases List.mem_cons.mp ((insI_perm x l).mem_iff.mp hz) with rfl | hz
      · omega
      · exact h1 z hz
theorem sortZ_sorted : ∀ l, (sortZ l).Pairwise (· ≤ ·)
  | [] => .nil
  | x :: l => insI_sorted x (sortZ_sorted l)
theorem sortZ_uniq {l m : List Int} (h : m.Perm l) (hs : m.Pairwise (· ≤ ·)) : m = sortZ l :=
  List.Perm.eq_of_pairwise (fun _ _ _ _ a b => Int.le_antisymm a b) hs (sortZ_sorted l) (h.trans (sortZ_perm l).symm)
theorem keys_of {r : Rel α} : ∀ {kvs : List (Key × V)} {l : List (Int × α)}, Paired (fun (kv : Key × V) (ka : Int × α) => kv.1 = .inl ka.1 ∧ r.r K kv.2 ka.2) kvs l → kvs.map (·.1) = (l.map (·.1)).map Sum.inl
  | _, _, .nil => rfl
  | _, _, .cons h t => by rw [List.map_cons, List.map_cons, List.map_cons, keys_of t, h.1]
theorem ev_sortedDI {e : Expr} {p pos : Pos} {l : List (Int × α)} (hc : X.calm = true) (hm : X.mg "sorted" = none) (hl : l.length < 64) (h : EV X e σ K (rDI r) l) (hg : Gl X "sorted" := by rfl) (he : starEach [e] X.env = (false, eval e X.env) :: starEach [] X.env := by rfl) (hpl : (backTo pos (starEach [] X.env)).any (·.1) = false := by rfl) :
    EV X (.Call (.Name "sorted" p) [e] [] pos) σ K (rLst X.K rInt) (sortZ (l.map (·.1))) :=
  ev_callB (call_sortedDI hc) hm (by decide +kernel) (ea_1 h he) (fun vs K1 H1 Q _ l1 ⟨v, _, e1, ⟨z, kvs, e2, h1, h2⟩, e3⟩ q => by
    subst e3; subst e1; subst e2
    exact ⟨z, kvs, l.map (·.1), rfl, co_dK.mp (l1 z _ h1), keys_of h2, by rw [List.length_map]; exact hl, fun ys t hp hs ht => q _ _ _ (.new l1 ht) ⟨t, _, rfl, SqL.of upd_same, by rw [sortZ_uniq hp hs]; exact paired_of_int _⟩⟩) hg (by decide) (by decide) he hpl

/-! ### targets (a, b, ..) -/
theorem gd_tup2 {p : Addr} {u v : V} {g1 g2 : TG} {σ1 σ2 : L2.St} {F : PySem.W.Frag} (h : SqT F K p [u, v]) (h1 : GD g1 u σ K σ1) (h2 : GD g2 v σ1 K σ2) : GD (gTup F 2 (gCons g1 (gCons g2 gNil))) (.ref p) σ K σ2 := fun H le Q q =>
  ⟨p, _, rfl, le_T le h, rfl, u, _, rfl, h1 H le _ ⟨v, _, rfl, h2 H le _ ⟨rfl, q⟩⟩⟩
theorem gd_tup3 {p : Addr} {u v w : V} {g1 g2 g3 : TG} {σ1 σ2 σ3 : L2.St} {F : PySem.W.Frag} (h : SqT F K p [u, v, w]) (h1 : GD g1 u σ K σ1) (h2 : GD g2 v σ1 K σ2) (h3 : GD g3 w σ2 K σ3) : GD (gTup F 3 (gCons g1 (gCons g2 (gCons g3 gNil)))) (.ref p) σ K σ3 := fun H le Q q =>
  ⟨p, _, rfl, le_T le h, rfl, u, _, rfl, h1 H le _ ⟨v, _, rfl, h2 H le _ ⟨w, _, rfl, h3 H le _ ⟨rfl, q⟩⟩⟩⟩
theorem gd_lst3 {p : Addr} {u v w : V} {g1 g2 g3 : TG} {σ1 σ2 σ3 : L2.St} {F : PySem.W.Frag} (h : SqL F K p [u, v, w]) (h1 : GD g1 u σ K σ1) (h2 : GD g2 v σ1 K σ2) (h3 : GD g3 w σ2 K σ3) : GD (gLst F 3 (gCons g1 (gCons g2 (gCons g3 gNil)))) (.ref p) σ K σ3 := fun H le Q q =>
  ⟨p, _, rfl, le_L le h, rfl, u, _, rfl, h1 H le _ ⟨v, _, rfl, h2 H le _ ⟨w, _, rfl, h3 H le _ ⟨rfl, q⟩⟩⟩⟩

/-! ### zip and enumerate -/
theorem zip_get {xs : List β} {ys : List γ} {i : Nat} {b : β} {c : γ} (h1 : xs[i]? = some b) (h2 : ys[i]? = some c) : (xs.zip ys)[i]? = some (b, c) := by
  rw [List.getElem?_zip_eq_some]
  exact ⟨h1, h2⟩
theorem wk_pair {J : It} {K1 H1 : Hp} {G : Hp → Prop} {X1 X2 : Nat → Option V} {ds : List (β × γ)} {F : PySem.W.Frag} (w : Walk J ds.length G (YPair X1 X2)) (hG : ∀ H', Le K1 H' → G H')
    (hx : ∀ i u v, X1 i = some u → X2 i = some v → i < ds.length → ∃ b c, ds[i]? = some (b, c) ∧ r1.r K1 u b ∧ r2.r K1 v c) : Wk J K1 H1 (rTup2 F r1 r2) ds :=
  ⟨G, _, w, fun H' l _ => hG H' l, fun i H' x H'' hi l _ y => by
    obtain ⟨T, u, v, e1, hT, e2, g1, g2⟩ := y
    obtain ⟨b, c, e3, h1, h2⟩ := hx i u v g1 g2 hi
    subst e2
    have hk := l.fresh hT
    exact ⟨upd K1 T (.tup [u, v]), (b, c), e3, .new l hT, T, u, v, e1, SqT.of upd_same, r1.mono (le_new' hk) h1, r2.mono (le_new' hk) h2⟩⟩
theorem walk_zipT {F : PySem.W.Frag} {a b : Addr} {xs ys : List V} {n : Nat} (hn : n = min xs.length ys.length) : Walk (RZ.ItzT F a b) n (fun H => SqT F H a xs ∧ SqT F H b ys) (YPair (fun i => xs[i]?) (fun i => ys[i]?)) := by
  subst hn
  refine ⟨fun i _ hi q => ?_, fun _ q => ⟨xs, ys, q.1, q.2, by omega⟩, fun i H v H' _ q y => ?_⟩
  · have h1 : i < xs.length := by omega
    have h2 : i < ys.length := by omega
    exact ⟨xs, ys, xs[i], ys[i], q.1, q.2, by simp [h1], by simp [h2]⟩
  · obtain ⟨T, x, z, h1, h2, h3, h4, h5⟩ := y
    exact ⟨T, x, z, h1, h2, h3, h4 xs q.1, h5 ys q.2⟩
theorem zip_hx {vs ws : List V} {xs : List β} {ys : List γ} (h1 : Paired (r1.r K) vs xs) (h2 : Paired (r2.r K) ws ys) : ∀ i u v, vs[i]? = some u → ws[i]? = some v → i < (xs.zip ys).length → ∃ b c, (xs.zip ys)[i]? = some (b, c) ∧ r1.r K u b ∧ r2.r K v c := fun i u v e1 e2 _ => by
  obtain ⟨b, g1, g2⟩ := paired_get' h1 e1
  obtain ⟨c, g3, g4⟩ := paired_get' h2 e2
  exact ⟨b, c, zip_get g1 g3, g2, g4⟩
section
variable {elts : List Expr} {kk : Nat} {tpos p pos : Pos} {e e2 : Expr} {xs : List β} {ys : List γ}
theorem es_zipT (hm : X.mg "zip" = none) (h1 : EV X e σ K (rTupL X.K r1) xs) (h2 : EV X e2 σ K (rTupL X.K r2) ys) (hg : Gl X "zip" := by rfl)
    (hs : starEach [e, e2] X.env = (false, eval e X.env) :: starEach [e2] X.env := by rfl) (hs2 : starEach [e2] X.env = (false, eval e2 X.env) :: starEach [] X.env := by rfl) (hpl : (backTo pos (starEach [e2] X.env)).any (·.1) = false := by rfl) :
    ES X (.Tuple elts kk tpos) (.Call (.Name "zip" p) [e, e2] [] pos) σ K [] (rTup2 X.K r1 r2) (xs.zip ys) := fun H le _ R q =>
  PI.to (RZ.pi_zipA hg hm (paW [e, e2]) hs hpl) (ea_cons h1 (ea_1 h2 hs2) (mo_cons mo_nil) hs H le _ fun vs K1 H1 n ⟨v, _, e1, ⟨a, as, ea, ha, hap⟩, w, _, e2, ⟨b, bs, eb, hb, hbp⟩, e3⟩ => by
    subst e3; subst e2; subst e1; subst ea; subst eb
    refine ⟨a, b, as, bs, rfl, .inr ⟨le_T n.in_ ha, le_T n.in_ hb, q _ K1 H1 n (wk_pair (walk_zipT (by rw [List.length_zip, paired_len hap, paired_len hbp])) (fun H' l => ⟨le_T l ha, le_T l hb⟩) (zip_hx hap hbp))⟩⟩)
theorem es_zipL (hm : X.mg "zip" = none) (h1 : EV X e σ K (rLst X.K r1) xs) (h2 : EV X e2 σ K (rLst X.K r2) ys) (hg : Gl X "zip" := by rfl)
    (hs : starEach [e, e2] X.env = (false, eval e X.env) :: starEach [e2] X.env := by rfl) (hs2 : starEach [e2] X.env = (false, eval e2 X.env) :: starEach [] X.env := by rfl) (hpl : (backTo pos (starEach [e2] X.env)).any (·.1) = false := by rfl) :
    ES X (.Tuple elts kk tpos) (.Call (.Name "zip" p) [e, e2] [] pos) σ K [] (rTup2 X.K r1 r2) (xs.zip ys) := fun H le _ R q =>
  PI.to (RZ.pi_zipA hg hm (paW [e, e2]) hs hpl) (ea_cons h1 (ea_1 h2 hs2) (mo_cons mo_nil) hs H le _ fun vs K1 H1 n ⟨v, _, e1, ⟨a, as, ea, ha, hap⟩, w, _, e2, ⟨b, bs, eb, hb, hbp⟩, e3⟩ => by
    subst e3; subst e2; subst e1; subst ea; subst eb
    refine ⟨a, b, as, bs, rfl, .inl ⟨le_L n.in_ ha, le_L n.in_ hb, q _ K1 H1 n (wk_pair (walk_zip (by rw [List.length_zip, paired_len hap, paired_len hbp])) (fun H' l => ⟨le_L l ha, le_L l hb⟩) (zip_hx hap hbp))⟩⟩)
end
end
end SN
end TQH

section TQI
set_option Elab.async false
set_option linter.all false
set_option maxRecDepth 100000
set_option maxHeartbeats 4000017
/-! QI: enumerate over a tuple. -/
namespace SN
open PySem PySem.Spec PyProof.Rows L2
/-- enumerate(v) as the library has it, v by how its iterator begins -/
theorem en_new {v : Value} {o : Obj} {G : Heap → Prop} (B : Begins v o G) :
    Meets (Builtin.«enumerate.__new__» ⟨[.type "enumerate", v], []⟩) (fun _ R s =>
      G s.heap ∧ R (.ok (.ret (.ref (s.heap.push o).objs.size)))
        { s with heap := (s.heap.push o).push { cls := .type "enumerate", data := .fields #[.none, .bool false, .ref s.heap.objs.size, rawInt 0, .none, .none] } }) :=
  .of_wp fun prog w A R s hs => by
    obtain ⟨hp, gs, dr, tk, os⟩ := s
    obtain ⟨g1, hr⟩ := hs
    have hsub := sub_enumerate
    have it1 : ∀ {A' : Around} {E : Value → Shared → Prop} {Q : Value → Shared → Prop}, Q (.ref hp.objs.size) ⟨hp.push o, gs, dr, tk, os⟩ → wpAny (model prog w) A' (pyIter v) Q E ⟨hp, gs, dr, tk, os⟩ := fun q => B.iter prog w _ _ ⟨hp, gs, dr, tk, os⟩ _ g1 q
    wp_walk using it1
    refine wpAny_stack_any fun st => wpAny_pure ?_
    split
    · rename_i c _ _ _ _ _
      cases (c == Value.type "enumerate") <;> (wp_walk using it1; exact ⟨_, rfl, hr⟩)
    · wp_walk using it1; exact ⟨_, rfl, hr⟩
theorem en_call {prog : Program} {w : World} {A : Around} {E : Value → Shared → Prop} {s : Shared} {v : Value} {o : Obj} {G : Heap → Prop} {Q : Value → Shared → Prop} (B : Begins v o G) (g1 : G s.heap)
    (hq : ∀ h', IsEnum h' (s.heap.objs.size + 1) s.heap.objs.size 0 .none → h'.get? s.heap.objs.size = some o → (∀ b u, s.heap.get? b = some u → h'.get? b = some u) → Q (.ref (s.heap.objs.size + 1)) { s with heap := h' }) :
    wpAny (model prog w) A (call (.type "enumerate") [v]) Q E s := by
  refine callType_new F.called_enumerate (by decide) (F.typeCall_enumerate_1 _) (F.newCall_enumerate_1 _) (fun obj => F.args_object_init_2 obj _) F.entry_enumerate_new (en_new B) ⟨g1, ?_⟩
  have e1 : (s.heap.push o).objs.size = s.heap.objs.size + 1 := Heap.size_push ..
  have e2 : IsEnum ((s.heap.push o).push { cls := .type "enumerate", data := .fields #[.none, .bool false, .ref s.heap.objs.size, rawInt 0, .none, .none] }) (s.heap.objs.size + 1) s.heap.objs.size 0 .none := by
    have z := Heap.get?_push_size (s.heap.push o) (o := { cls := .type "enumerate", data := .fields #[.none, .bool false, .ref s.heap.objs.size, rawInt 0, .none, .none] }) rfl
    rw [e1] at z
    exact z
  show _ ∧ _
  rw [e1]
  exact ⟨⟨_, e2, rfl⟩, hq _ e2 (Heap.get?_push_of_some _ (Heap.get?_push_size _ B.free)) fun b u x => Heap.get?_push_of_some _ (Heap.get?_push_of_some _ x)⟩
/-- the tuple at a as it stands at each turn, each item in a new pair -/
def IteT (F : PySem.W.Frag) (a : Addr) : It :=
  ⟨fun i H => ∃ (xs : List V) (x : V), SqT F H a xs ∧ xs[i]? = some x, fun i H v H' => ∃ T x, v = .ref T ∧ H T = none ∧ H' = upd H T (.tup [.int (i : Nat), x]) ∧ ∀ xs, SqT F H a xs → xs[i]? = some x, fun i H => ∃ xs : List V, SqT F H a xs ∧ xs.length ≤ i⟩
theorem turn_enT {P : Program} {w : World} {F : PySem.W.Frag} {elts : List Expr} {kk : Nat} {tpos : Pos} (a e it : Addr) (hat : a ≠ it) (hae : a ≠ e) :
    Turn P w F (.Tuple elts kk tpos) (IteT F a) [e, it] e (fun i h => (∃ old, IsEnum h e it ((i : Nat) : Int) old) ∧ h.IsTupleIter it a i ∧ e ≠ it) where
  mem := List.mem_cons_self ..
  obj := fun i h st b hb => by
    obtain ⟨⟨old, he⟩, ⟨o, ho, hc, hd⟩, _⟩ := st
    rcases List.mem_cons.mp hb with z | hb
    · subst z; exact ⟨_, he, fun v q => nomatch q⟩
    · rw [List.mem_singleton.mp hb]; exact ⟨o, ho, fun v q => by rw [hd] at q; cases q⟩
  keep := fun i h h' st k => by
    obtain ⟨⟨old, he⟩, hi, hne⟩ := st
    exact ⟨⟨old, k e (by simp) _ he⟩, hi.at fun o q => k it (by simp) o q, hne⟩
  item := by
    intro X hP hw hK hc i pins s σ H E I hf st hg
    subst hP hw hK
    obtain ⟨⟨old, he⟩, hit, hne⟩ := st
    obtain ⟨xs, x, hq, hx⟩ := hg
    obtain ⟨its, rv, p, hz⟩ := I.tuple hq
    obtain ⟨u, hu, ru⟩ := rv.get hx
    have hel : e < s.heap.objs.size := Heap.lt_size he
    have hil : it < s.heap.objs.size := by obtain ⟨_, q, _⟩ := hit; exact Heap.lt_size q
    have lt : i < its.toArray.size := by
      have z := (List.getElem?_eq_some_iff.mp hu).1
      simpa using z
    have hei : e ∉ [it, a] := by
      intro z
      rcases List.mem_cons.mp z with z | z
      · exact hne z
      · exact hae (List.mem_singleton.mp z).symm
    refine wpAny_pyNext_enum_itemD (Draws.tuple (A := X.A.in1) (show X.A.in1.handled = none from I.ok.hd hc) it a hat its.toArray) he ⟨hit, p⟩ lt hne hei fun y h' tk hy ho hit' hT hsz hk => ?_
    have ey : y = u := by
      have z : its[i]? = some y := by simpa using hy
      rw [hu] at z
      exact (Option.some.inj z).symm
    subst ey
    refine ⟨_, rfl, wpAny_letOwnedTupleGo_enum (s := { s with heap := h', toks := tk + 1 }) ho fun h'' he' sb => ?_⟩
    have T2 : h''.get? s.heap.objs.size = some { cls := .type "tuple", data := .seq #[.int i tk, y] } := (sb.2 _ (Nat.ne_of_gt hel)).trans hT
    have new : ObjOk X.prog X.w (upd H s.heap.objs.size (.tup [.int (i : Nat), x])) h'' s.heap.objs.size (.tup [.int (i : Nat), x]) :=
      ⟨by show 2 ≤ sizeLine; decide, [.int i tk, y], .cons ⟨_, rfl⟩ (.cons ru .nil), ⟨_, T2, rfl, _, rfl⟩⟩
    have I1 : Inv X pins σ (upd H s.heap.objs.size (.tup [.int (i : Nat), x])) { s with heap := h'', toks := tk + 1 } :=
      I.turnedNew (ch := [e, it]) (fun b ob hb q => by
        have b1 : b ≠ e := fun z => hb (by simp [z])
        have b2 : b ≠ it := fun z => hb (by simp [z])
        exact (sb.2 b b1).trans (hk b ob b1 b2 q)) hf (Nat.le_refl _) new
    refine ⟨.ref s.heap.objs.size, _, I1, rfl, ⟨_, x, rfl, I.hok.fresh (Nat.le_refl _), rfl, fun ys hy => by rw [I.tuple_inj hy hq]; exact hx⟩, ⟨⟨y, ?_⟩, hit'.1.at fun o q => (sb.2 it (Ne.symm hne)).trans q, hne⟩, fun b hb => ?_⟩
    · have e1 : ((i + 1 : Nat) : Int) = (i : Int) + 1 := by omega
      rw [e1]
      exact he'
    · have lt2 : b < s.heap.objs.size := by
        rcases List.mem_cons.mp hb with z | hb
        · rw [z]; exact hel
        · rw [List.mem_singleton.mp hb]; exact hil
      rw [upd_ne (Nat.ne_of_lt lt2)]
      exact (hf b hb).1
  done := by
    intro X hP hw hK hc i pins s σ H E I hf st hg
    subst hP hw hK
    obtain ⟨⟨old, he⟩, hit, hne⟩ := st
    obtain ⟨xs, hq, hx⟩ := hg
    obtain ⟨its, rv, p, hz⟩ := I.tuple hq
    obtain ⟨f0, f1, f2, f3, f4, f5⟩ := hf it (by simp)
    have hl := rv.length
    have hT : s.TypeIs (.ref e) "enumerate" := ⟨_, he, rfl⟩
    unfold pyNext
    refine wpAny_bind (wpAny_attempt (wpAny_callSpecial?_slot (name := Str.ofString "__next__") hT F.slot_enumerate_next
      (wpAny_call_entry F.slot_enumerate_next hT F.entry_enumerate_next ?_ (F.args_enumerate_next_1 _))))
    show wpAny _ _ (field (.ref e) 2 >>= _) _ _ _
    refine wpAny_bind (wpAny_field he rfl (x := .ref it) rfl ?_)
    have hn : its.toArray[i]? = none := by simp; omega
    refine wpAny_bind (wpAny_nextOf_tuple_end (show X.A.in1.handled = none from I.ok.hd hc) hit p hn fun h' x eb hx' => ?_)
    obtain ⟨o, ho, hcl⟩ := hx'
    refine wpAny_bind (wpAny_isInstance (T := "StopIteration") (b := true) ⟨o, ho, hcl⟩ isSubtype_stop ?_)
    exact wpAny_pure ⟨rfl, I.turned (t' := s.toks) (fun b o hb q => eb b o hb q) f0 f1 f3 f4 f5⟩
  self := fun A i s Q E st h => by
    obtain ⟨⟨_, he⟩, _⟩ := st
    exact wpAny_pyIter_enum he h
def iEnT (F : PySem.W.Frag) (ta : TA) : TI := fun σ H R => ta σ H fun vs H1 => ∃ a xs, vs = [.ref a] ∧ SqT F H1 a xs ∧ R (IteT F a) H1
theorem pi_enT {X : Cx} {e : Expr} {ta : TA} {p pos tpos : Pos} {elts : List Expr} {kk : Nat} (hg : Gl X "enumerate") (hm : X.mg "enumerate" = none) (ha : PA X [e] ta) (hs : starEach [e] X.env = [(false, eval e X.env)]) :
    PI X (.Tuple elts kk tpos) (.Call (.Name "enumerate" p) [e] [] pos) (iEnT X.K ta) := by
  refine ⟨fun pins s σ H R I h => ?_⟩
  refine Call_ (ld_blt I hg hm boot_enumerate (PyProof.Rows.callWith_type1 (thn (ha.run pos pins s σ H _ I h) fun us s1 ⟨vs, H1, I1, r1, q1⟩ => ?_) hs rfl))
  obtain ⟨a, xs, ex, hq, q⟩ := q1
  subst ex
  obtain ⟨u, eu, rx⟩ := vals1 r1
  subst eu
  cases rx
  obtain ⟨its, rv, pt, hz⟩ := I1.tuple hq
  have pt' : s1.heap.IsTuple a its.toArray := pt
  have ha1 : a < s1.heap.objs.size := by obtain ⟨_, ho, _⟩ := id pt'; exact Heap.lt_size ho
  refine en_call (begins_tuple a its.toArray) pt' fun h' he hit hk => wpAny_pyIter_enum he ?_
  have I2 : Inv X pins σ H1 { s1 with heap := h' } := I1.kept (t' := s1.toks) hk
  refine ⟨s1.heap.objs.size + 1, [s1.heap.objs.size + 1, s1.heap.objs.size], _, _, H1, rfl, I2, turn_enT a (s1.heap.objs.size + 1) s1.heap.objs.size (Nat.ne_of_lt ha1) (Nat.ne_of_lt (Nat.lt_succ_of_lt ha1)), ⟨⟨.none, he⟩, ⟨_, hit, rfl, rfl⟩, Nat.succ_ne_self _⟩, fun b hb => ?_, q⟩
  have hle : s1.heap.objs.size ≤ b := by
    rcases List.mem_cons.mp hb with z | hb
    · rw [z]; exact Nat.le_add_right _ _
    · rw [List.mem_singleton.mp hb]; exact Nat.le_refl _
  exact I1.fpOk hle (I1.hok.fresh hle)
theorem walk_enT {F : PySem.W.Frag} {a : Addr} {xs : List V} : Walk (IteT F a) xs.length (fun H => SqT F H a xs) (YPair (fun i => some (.int (i : Nat))) (fun i => xs[i]?)) := by
  refine ⟨fun i _ hi q => ⟨xs, xs[i], q, by simp [hi]⟩, fun _ q => ⟨xs, q, Nat.le_refl _⟩, fun i H v H' _ q y => ?_⟩
  obtain ⟨T, x, h1, h2, h3, h4⟩ := y
  exact ⟨T, .int (i : Nat), x, h1, h2, h3, rfl, h4 xs q⟩
section
variable {X : Cx} {α : Type} {σ : L2.St} {K : Hp} {r : Rel α} {elts : List Expr} {kk : Nat} {tpos p pos : Pos} {e : Expr} {xs : List α}
def idx (xs : List α) : List (Int × α) := (List.range xs.length).zipWith (fun (i : Nat) a => ((i : Int), a)) xs
theorem idx_length (xs : List α) : (idx xs).length = xs.length := by simp [idx]
theorem idx_get {xs : List α} {i : Nat} {a : α} (h : xs[i]? = some a) : (idx xs)[i]? = some ((i : Int), a) := by
  obtain ⟨h1, h2⟩ := List.getElem?_eq_some_iff.mp h
  rw [List.getElem?_eq_some_iff]
  refine ⟨by rw [idx_length]; exact h1, ?_⟩
  simp [idx, h2]
theorem es_enT (hm : X.mg "enumerate" = none) (h : EV X e σ K (rTupL X.K r) xs) (hg : Gl X "enumerate" := by rfl) (hs : starEach [e] X.env = [(false, eval e X.env)] := by rfl) :
    ES X (.Tuple elts kk tpos) (.Call (.Name "enumerate" p) [e] [] pos) σ K [] (rTup2 X.K rInt r) (idx xs) := fun H le _ R q =>
  PI.to (pi_enT hg hm (paW [e]) hs) (ea_1 h (hs.trans rfl) H le _ fun vs K1 H1 n ⟨v, _, e1, ⟨a, as, ea, ha, hap⟩, e3⟩ => by
    subst e3; subst e1; subst ea
    refine ⟨a, as, rfl, le_T n.in_ ha, q _ K1 H1 n (wk_pair (ds := idx xs) (X1 := fun i => some (.int (i : Nat))) (X2 := fun i => as[i]?) (by rw [idx_length, ← paired_len hap]; exact walk_enT) (fun H' l => le_T l ha) fun i u v e1 e2 hi => ?_)⟩
    obtain ⟨c, g3, g4⟩ := paired_get' hap e2
    exact ⟨(i : Int), c, idx_get g3, (Option.some.inj e1).symm, g4⟩)
end
end SN
end TQI

section TQJ
set_option Elab.async false
set_option linter.all false
set_option maxRecDepth 100000
set_option maxHeartbeats 4000017
/-! QJ: statements that fill one dict (SD): loops, tests, stores. -/
namespace SN
open PySem PySem.Spec PyProof.Rows L2
section
variable {X : Cx} {α β γ δ : Type} {σ : L2.St} {K H K' H' : Hp} {r : Rel α} {a : α}
/-- the statements put bs into what p holds; Sg: what is kept of the slots -/
def SD (X : Cx) (ss : List Stmt) {β : Type} (F : Fill β) (p : Addr) (Sg : L2.St → Prop) (σ : L2.St) (K : Hp) (bs : List β) : Prop :=
  ∀ K1 H o ys, Le K K1 → Le K1 (era H p) → H p = some o → F.Obj K1 o ys → ys.length + bs.length ≤ sz →
    ∀ D : Ends, (∀ σ3 K3 H3 o3, Sg σ3 → Nxt K1 (era H p) K3 (era H3 p) → H3 p = some o3 → F.Obj K3 o3 (ys ++ bs) → D.nx σ3 H3) → wSs X ss D σ H
theorem sd_nil {F : Fill β} {p : Addr} {Sg : L2.St → Prop} (h : Sg σ) : SD X [] F p Sg σ K [] := fun K1 H o ys l l1 hd ob hz D q => ss_nil (q σ K1 H o h (.refl l1) hd (by rw [List.append_nil]; exact ob))
/-- one statement -/
def SD1 (X : Cx) (st : Stmt) {β : Type} (F : Fill β) (p : Addr) (Sg : L2.St → Prop) (σ : L2.St) (K : Hp) (bs : List β) : Prop :=
  ∀ K1 H o ys, Le K K1 → Le K1 (era H p) → H p = some o → F.Obj K1 o ys → ys.length + bs.length ≤ sz →
    ∀ D : Ends, (∀ σ3 K3 H3 o3, Sg σ3 → Nxt K1 (era H p) K3 (era H3 p) → H3 p = some o3 → F.Obj K3 o3 (ys ++ bs) → D.nx σ3 H3) → wS X st D σ H
theorem sd_one {F : Fill β} {p : Addr} {Sg : L2.St → Prop} {st : Stmt} {bs : List β} (h : SD1 X st F p Sg σ K bs) : SD X [st] F p Sg σ K bs := fun K1 H o ys l l1 hd ob hz D q => ss_one (h K1 H o ys l l1 hd ob hz D q)
/-- one after the other -/
theorem sd_cons {F : Fill β} {p : Addr} {Sg Sg2 : L2.St → Prop} {st : Stmt} {rest : List Stmt} {b1 b2 : List β} (h : SD1 X st F p Sg σ K b1) (h2 : ∀ σ2, Sg σ2 → SD X rest F p Sg2 σ2 K b2) : SD X (st :: rest) F p Sg2 σ K (b1 ++ b2) := fun K1 H o ys l l1 hd ob hz D q => by
  rw [List.length_append] at hz
  refine ss_cons (h K1 H o ys l l1 hd ob (by omega) _ fun σ3 K3 H3 o3 hs n e3 ob3 => ?_)
  refine h2 σ3 hs K3 H3 o3 (ys ++ b1) (l.trans n.le) n.in_ e3 ob3 (by rw [List.length_append]; omega) D fun σ4 K4 H4 o4 hs4 n4 e4 ob4 => q σ4 K4 H4 o4 hs4 (n.trans n4) e4 (by rw [← List.append_assoc]; exact ob4)
theorem SD1.imp {F : Fill β} {p : Addr} {Sg Sg2 : L2.St → Prop} {st : Stmt} {bs : List β} (h : SD1 X st F p Sg σ K bs) (f : ∀ σ, Sg σ → Sg2 σ) : SD1 X st F p Sg2 σ K bs := fun K1 H o ys l l1 hd ob hz D q => h K1 H o ys l l1 hd ob hz D fun σ3 K3 H3 o3 hs => q σ3 K3 H3 o3 (f σ3 hs)
theorem SD1.of {F : Fill β} {p : Addr} {Sg : L2.St → Prop} {st : Stmt} {bs b2 : List β} (h : SD1 X st F p Sg σ K bs) (e : bs = b2) : SD1 X st F p Sg σ K b2 := e ▸ h
/-- .. and the rest of the block -/
theorem ss_sd {F : Fill β} {p : Addr} {Sg : L2.St → Prop} {st : Stmt} {rest : List Stmt} {bs ys : List β} {o : HO} {D : Ends} (h : SD1 X st F p Sg σ K bs) (l1 : Le K (era H p)) (hd : H p = some o) (ob : F.Obj K o ys) (hz : ys.length + bs.length ≤ sz)
    (q : ∀ σ3 K3 H3 o3, Sg σ3 → Nxt K (era H p) K3 (era H3 p) → H3 p = some o3 → F.Obj K3 o3 (ys ++ bs) → wSs X rest D σ3 H3) : wSs X (st :: rest) D σ H := ss_cons (h K H o ys (.refl _) l1 hd ob hz _ q)
/-- what was filled is known from now on -/
theorem Nxt.pubE {K0 H0 K3 H3 : Hp} {p : Addr} {o : HO} (n : Nxt K0 H0 K3 (SN.era H3 p)) (hd : H3 p = some o) : Nxt K0 H0 (upd K3 p o) H3 := by
  have e := upd_era hd
  conv => rhs; rw [← e]
  exact n.trans (.new n.in_ era_self)
theorem s_newT {x : Str} {i : Nat} {p2 pos pos' : Pos} {D : Ends} (hN : X.N.Nodup) (hi : X.N[i]? = some x) (hx : Loc X.env.scope x) (k : ∀ p, H p = none → D.nx (σ.set i (some (.ref p))) (upd H p (.dT [])))
    (hs : swapsWith (.Dict [] [] p2) (some (.Name x pos')) pos.line X.env = pure false := by rfl) (hf : X.fn x = true ∨ X.env.scope.names.lookup x = some .local := by first | exact .inl rfl | exact .inr rfl) : wS X (.Assign [.Name x pos'] (.Dict [] [] p2) pos) D σ H :=
  PS.to (ps_set hN hi hx pe_dnewT hs hf) k
theorem s_newK {x : Str} {i : Nat} {p2 pos pos' : Pos} {D : Ends} (hN : X.N.Nodup) (hi : X.N[i]? = some x) (hx : Loc X.env.scope x) (k : ∀ p, H p = none → D.nx (σ.set i (some (.ref p))) (upd H p (.dK [])))
    (hs : swapsWith (.Dict [] [] p2) (some (.Name x pos')) pos.line X.env = pure false := by rfl) (hf : X.fn x = true ∨ X.env.scope.names.lookup x = some .local := by first | exact .inl rfl | exact .inr rfl) : wS X (.Assign [.Name x pos'] (.Dict [] [] p2) pos) D σ H :=
  PS.to (ps_set hN hi hx pe_dnewK hs hf) k
theorem fin_dC {K1 : Hp} {p : Addr} {o3 : HO} {ys : List (Cell × α)} (h : (fillDC r).Obj K1 o3 ys) (hk : K1 p = none) : (rDC r).r (upd K1 p o3) (.ref p) (dputs [] ys) := by
  obtain ⟨kvs, e, hp⟩ := h
  subst e
  exact ⟨p, kvs, rfl, co_dT.mpr (.inl upd_same), Paired.imp (fun _ _ z => ⟨z.1, r.mono (le_new' hk) z.2⟩) hp⟩
theorem fin_dI {K1 : Hp} {p : Addr} {o3 : HO} {ys : List (Int × α)} (h : (fillDI r).Obj K1 o3 ys) (hk : K1 p = none) : (rDI r).r (upd K1 p o3) (.ref p) (dputs [] ys) := by
  obtain ⟨kvs, e, hp⟩ := h
  subst e
  exact ⟨p, kvs, rfl, co_dK.mpr (.inl upd_same), Paired.imp (fun _ _ z => ⟨z.1, r.mono (le_new' hk) z.2⟩) hp⟩
/-- found[c] = e, and no more -/
theorem sd_dputC {value o i : Expr} {pos pos' : Pos} {p : Addr} {Sg : L2.St → Prop} {c : Cell} {a : α} (hu : X.A.units + 1 < cLine) (hSg : Sg σ) (hv : EV X value σ K r a) (ho : EV X o σ K rVal (.ref p)) (hi : EV X i σ K rCell c)
    (hs : swapsWith value (some (.Subscript o i pos')) pos.line X.env = pure false := by rfl) : SD1 X (.Assign [.Subscript o i pos'] value pos) (fillDC r) p Sg σ K [(c, a)] := fun K1 H ob ys l l1 hd obj hz D q => by
  obtain ⟨kvs, e, hp⟩ := obj
  subst e
  refine (s_dputC hu l1 hd hp ?_ (hv.mono l) (ho.mono l) (hi.mono l) (fun K' H' kvs' n e2 hp2 => (q σ K' H' _ hSg n e2 ⟨kvs', rfl, by rw [dputs_snoc]; exact hp2⟩)) hs)
  have := dputs_length ys ([] : List (Cell × α))
  simp only [List.length_singleton, List.length_nil] at hz this
  omega
theorem sd_dputI {value o i : Expr} {pos pos' : Pos} {p : Addr} {Sg : L2.St → Prop} {c : Int} {a : α} (hu : X.A.units + 1 < cLine) (hSg : Sg σ) (hv : EV X value σ K r a) (ho : EV X o σ K rVal (.ref p)) (hi : EV X i σ K rInt c)
    (hs : swapsWith value (some (.Subscript o i pos')) pos.line X.env = pure false := by rfl) : SD1 X (.Assign [.Subscript o i pos'] value pos) (fillDI r) p Sg σ K [(c, a)] := fun K1 H ob ys l l1 hd obj hz D q => by
  obtain ⟨kvs, e, hp⟩ := obj
  subst e
  refine (s_dputI hu l1 hd hp ?_ (hv.mono l) (ho.mono l) (hi.mono l) (fun K' H' kvs' n e2 hp2 => (q σ K' H' _ hSg n e2 ⟨kvs', rfl, by rw [dputs_snoc]; exact hp2⟩)) hs)
  have := dputs_length ys ([] : List (Int × α))
  simp only [List.length_singleton, List.length_nil] at hz this
  omega
/-- if c: body -/
theorem sd_if {F : Fill β} {c : Expr} {body : List Stmt} {pos : Pos} {p : Addr} {Sg : L2.St → Prop} {b : Bool} {bs : List β} (hSg : Sg σ) (hc : ET X c σ K b) (h : b = true → SD X body F p Sg σ K bs) : SD1 X (.If c body [] pos) F p Sg σ K (if b = true then bs else []) := fun K1 H o ys l l1 hd ob hz D q => by
  refine (s_if (era_le l1) (hc.mono l) (fun e H1 s1 l2 => ?_) fun e H1 s1 l2 => ?_)
  · rw [if_pos e] at hz q
    have hk := le_era_none l1
    have n1 : Nxt K1 (era H p) K1 (era H1 p) := (Nxt.same1 (era_le l1) s1).era hk hd (F.nt ob)
    exact h e K1 H1 o ys l n1.in_ (s1 p _ hd) ob hz D fun σ3 K3 H3 o3 hs n e3 ob3 => q σ3 K3 H3 o3 hs (n1.trans n) e3 ob3
  · have e2 : ¬ b = true := fun z => by rw [e] at z; cases z
    rw [if_neg e2] at q
    have hk := le_era_none l1
    have n1 : Nxt K1 (era H p) K1 (era H1 p) := (Nxt.same1 (era_le l1) s1).era hk hd (F.nt ob)
    exact ss_nil (q σ K1 H1 o hSg n1 (s1 p _ hd) (by rw [List.append_nil]; exact ob))
/-- a statement that only sets slots, then the rest -/
theorem sd_set {F : Fill β} {st : Stmt} {rest : List Stmt} {p : Addr} {Sg : L2.St → Prop} {σ2 : L2.St} {bs : List β} (h : ∀ K1 H, Le K K1 → Le K1 H → ∀ D : Ends, (∀ K2 H2, Nxt K1 H K2 H2 → D.nx σ2 H2) → wS X st D σ H) (hr : SD X rest F p Sg σ2 K bs) : SD X (st :: rest) F p Sg σ K bs := fun K1 H o ys l l1 hd ob hz D q => by
  refine ss_cons (h K1 H l (era_le l1) _ fun K2 H2 n => ?_)
  have hk := le_era_none l1
  have nE := n.era hk hd (F.nt ob)
  exact hr K2 H2 o ys (l.trans n.le) nE.in_ (n.same p _ hd) (F.mono n.le ob) hz D fun σ3 K3 H3 o3 hs n3 e3 ob3 => q σ3 K3 H3 o3 hs (nE.trans n3) e3 ob3
/-- what one turn of a loop is to do -/
def TurnS (X : Cx) (body : List Stmt) {β : Type} (F : Fill β) (p : Addr) (Sg : L2.St → Prop) (g : TG) (K : Hp) {α : Type} (r : Rel α) (xs : List α) (em : α → List β) : Prop :=
  ∀ (i : Nat) (a : α) (σ' : L2.St) (K2 : Hp) (x : V), xs[i]? = some a → Sg σ' → Le K K2 → r.r K2 x a → ∃ σ2, GD g x σ' K2 σ2 ∧ SD X body F p Sg σ2 K2 (em a)
theorem flat_take {f : α → List β} {xs : List α} {i : Nat} {a : α} (h : xs[i]? = some a) : (xs.take (i + 1)).flatMap f = (xs.take i).flatMap f ++ f a := by
  rw [take_snoc h, List.flatMap_append, List.flatMap_cons, List.flatMap_nil, List.append_nil]
theorem flat_take_le {f : α → List β} (xs : List α) (i : Nat) : ((xs.take i).flatMap f).length ≤ (xs.flatMap f).length := by
  have := List.take_append_drop i xs
  conv => rhs; rw [← this, List.flatMap_append, List.length_append]
  exact Nat.le_add_right _ _
theorem sd_for {F : Fill β} {tg iter : Expr} {body : List Stmt} {pos : Pos} {p : Addr} {Sg : L2.St → Prop} {g : TG} {xs : List α} {em : α → List β} (hp : PassesOwn (model X.prog X.w) X.A X.env X.xe) (hc : X.calm = true) (hg : PG X tg g) (hSg : Sg σ) (hs : ES X tg iter σ K [] r xs) (turn : TurnS X body F p Sg g K r xs em)
    (hf : ∀ x, foldedSetIterable iter X.env x = pure x := by intro _; rfl) : SD1 X (.For tg iter body [] pos) F p Sg σ K (xs.flatMap em) := fun K1 H o ys l l1 hd ob hz D q => by
  have hk := le_era_none l1
  refine (s_for hp hc hg (era_le l1) (hs.mono l) (fun K2 H2 n => ?_) hf)
  have nE := n.era hk hd (F.nt ob)
  have hd2 := n.same p _ hd
  refine ⟨fun i σ' H' => Sg σ' ∧ ∃ K' o', Nxt K2 (era H2 p) K' (era H' p) ∧ H' p = some o' ∧ F.Obj K' o' (ys ++ (xs.take i).flatMap em), ⟨hSg, K2, o, .refl nE.in_, hd2, by simpa using F.mono n.le ob⟩, ?_, ?_, ?_⟩
  · rintro i σ' H' ⟨_, K', o', n', _, _⟩
    refine ⟨n'.le.trans (era_le n'.in_), fun d ob' u e => ?_⟩
    have z : d ≠ p := fun z => by subst z; rw [hd2] at e; exact F.fz ob _ _ (Option.some.inj e)
    have := n'.same d _ (by rw [era_ne z]; exact e)
    rw [era_ne z] at this; exact this
  · rintro i a σ' H' x K3 H'' ea ⟨sg, K', o', n', hd', ob'⟩ n3 hr
    obtain ⟨n3', l3⟩ := n3.wide n'.le (era_le n'.in_)
    have hk' : K' p = none := le_era_none n'.in_
    have nE3 := n3'.era hk' hd' (F.nt ob')
    obtain ⟨σ2, hg2, hb⟩ := turn i a σ' (join K' K3) x ea sg (l.trans (n.le.trans (n'.le.trans join_l))) (r.mono l3 hr)
    refine hg2 H'' n3'.in_ _ (hb (join K' K3) H'' o' (ys ++ (xs.take i).flatMap em) (Le.refl _) nE3.in_ (n3'.same p _ hd') (F.mono join_l ob') ?_ _ fun σ3 K4 H4 o4 sg4 n4 hd4 ob4 => ⟨sg4, K4, o4, (n'.trans nE3).trans n4, hd4, by rw [flat_take ea, ← List.append_assoc]; exact ob4⟩)
    have := flat_take_le (f := em) xs (i + 1)
    rw [flat_take ea, List.length_append] at this
    rw [List.length_append]
    omega
  · rintro σ' H' ⟨sg, K', o', n', hd', ob'⟩
    rw [List.take_length] at ob'
    exact (q σ' K' H' o' sg (nE.trans n') hd' ob')
theorem Lck.eraL {d p : Addr} {u : HO} {m : Option Obj} {Hu H' : Hp} (h : Lck d u m Hu H') (hp : p ≠ d) : Lck d u m (era Hu p) (era H' p) := by
  cases m with
  | none => rw [show H' = Hu from h]; rfl
  | some od =>
    obtain ⟨h1, h2⟩ := h
    refine ⟨by rw [era_ne (Ne.symm hp)]; exact h1, ?_⟩
    rw [h2]
    funext c
    by_cases e : c = p
    · subst e; rw [era_self, upd_ne hp, era_self]
    · rw [era_ne e]
      by_cases e2 : c = d
      · subst e2; rw [upd_same, upd_same]
      · rw [upd_ne e2, upd_ne e2, era_ne e]
theorem Lck.nxtE {d p : Addr} {u o3 : HO} {m : Option Obj} {Hu H' K1 K2 H3 : Hp} (hu : Dk u) (hp : p ≠ d) (h : Lck d u m Hu H') (n : Nxt K1 (era H' p) K2 (era H3 p)) (hd : H3 p = some o3) : ∃ Hu3, Lck d u m Hu3 H3 ∧ Nxt K1 (era Hu p) K2 (era Hu3 p) ∧ Hu3 p = some o3 := by
  obtain ⟨E3, le3, n3⟩ := (h.eraL hp).nxt hu n
  have hE : E3 p = none := by rw [← le3.at hp, era_self]
  refine ⟨upd E3 p o3, ?_, ?_, upd_same⟩
  · have := le3.mut (o := o3) hp
    rw [upd_era hd] at this
    exact this
  · rw [era_upd, era_none hE]; exact n3
/-- a loop over a dict that is known -/
theorem sd_forL {F : Fill β} {tg iter : Expr} {body : List Stmt} {pos : Pos} {p d : Addr} {u : HO} {Sg : L2.St → Prop} {g : TG} {xs : List α} {em : α → List β} (hp : PassesOwn (model X.prog X.w) X.A X.env X.xe) (hc : X.calm = true) (hg : PG X tg g) (hSg : Sg σ) (hu : Dk u) (hdk : co K d = some u) (hs : ES X tg iter σ K [d] r xs) (turn : TurnS X body F p Sg g K r xs em)
    (hf : ∀ x, foldedSetIterable iter X.env x = pure x := by intro _; rfl) : SD1 X (.For tg iter body [] pos) F p Sg σ K (xs.flatMap em) := fun K1 H o ys l l1 hd ob hz D q => by
  have hk := le_era_none l1
  have hpd : p ≠ d := fun z => by subst z; have := l p u hdk; rw [co_none.mpr hk] at this; cases this
  refine (s_forD hp hc hg (era_le l1) hu (l d u hdk) (hs.mono l) (fun K2 H2 m n => ?_) hf)
  have nE := n.era hk hd (F.nt ob)
  have hd2 := n.same p _ hd
  refine ⟨fun i σ' H' => Sg σ' ∧ ∃ K' o', Nxt K2 (era H2 p) K' (era H' p) ∧ H' p = some o' ∧ F.Obj K' o' (ys ++ (xs.take i).flatMap em), ⟨hSg, K2, o, .refl nE.in_, hd2, by simpa using F.mono n.le ob⟩, ?_, ?_, ?_⟩
  · rintro i σ' H' ⟨_, K', o', n', _, _⟩
    refine ⟨n'.le.trans (era_le n'.in_), fun c ob' w e => ?_⟩
    have z : c ≠ p := fun z => by subst z; rw [hd2] at e; exact F.fz ob _ _ (Option.some.inj e)
    have := n'.same c _ (by rw [era_ne z]; exact e)
    rw [era_ne z] at this; exact this
  · rintro i a σ' Hu H' x K3 H'' ea ⟨sg, K', o', n', hd', ob'⟩ lc n3 hr
    have le1 : Le K' H' := (era_le n'.in_).trans (le_of_co (lc.co hu))
    have hdl : H' p = some o' := by rw [lc.at hpd]; exact hd'
    obtain ⟨n3', l3⟩ := n3.wide n'.le le1
    have hk' : K' p = none := le_era_none n'.in_
    have nE3 := n3'.era hk' hdl (F.nt ob')
    obtain ⟨σ2, hg2, hb⟩ := turn i a σ' (join K' K3) x ea sg (l.trans (n.le.trans (n'.le.trans join_l))) (r.mono l3 hr)
    refine hg2 H'' n3'.in_ _ (hb (join K' K3) H'' o' (ys ++ (xs.take i).flatMap em) (Le.refl _) nE3.in_ (n3'.same p _ hdl) (F.mono join_l ob') ?_ _ fun σ3 K4 H4 o4 sg4 n4 hd4 ob4 => ?_)
    · have := flat_take_le (f := em) xs (i + 1)
      rw [flat_take ea, List.length_append] at this
      rw [List.length_append]
      omega
    · obtain ⟨Hu3, lc3, n5, e5⟩ := lc.nxtE hu hpd (nE3.trans n4) hd4
      exact ⟨Hu3, lc3, sg4, K4, o4, n'.trans n5, e5, by rw [flat_take ea, ← List.append_assoc]; exact ob4⟩
  · rintro σ' H' ⟨sg, K', o', n', hd', ob'⟩
    rw [List.take_length] at ob'
    exact (q σ' K' H' o' sg (nE.trans n') hd' ob')
end
end SN
end TQJ

section TQT
set_option Elab.async false
set_option linter.all false
set_option maxRecDepth 100000
set_option maxHeartbeats 4000017
/-! QT: the defs by their places, what is asked of the written part. -/
namespace SN
open PySem PySem.Spec PyProof.Rows L2
def top (i : Nat) : Stmt := PySem.Challenge.pw_solidnames_k81_added_and_taken_cells.main.body.getD i (.Pass ⟨0, 0, 0, 0⟩)
/-- a def of the module with plain parameters -/
def FnF (F : PySem.W.Frag) (mg : Str → Option Value) (x : Str) (st : Stmt) (ps : List Str) : Prop := ∃ f fd, Fun F x x st f fd ∧ mg x = some (.ref f) ∧ Binds F fd ps []
section
variable {P : Program} {w : World} {F : PySem.W.Frag} {mg : Str → Option Value} {base : Heap}
theorem df_fn {x : Str} {st : Stmt} {N ps : List Str} {k : Nat} {sp : Sp} (G : FnF F mg x st ps) (S : FnScope N ps (defScope st)) (len : ∀ vs H Q E, sp vs H Q E → vs.length = ps.length)
    (hbody : ∀ (X : Cx) (vs : List V) (H : Hp) (Q : VK) (E : XK) (f : Addr) (cdv : Value) (A : Around) (outer : List Env) (s : Shared), X = cxD P w F mg base N x st f cdv A outer s H E → Room k X.A → sp vs H Q E →
      wSs X (defBody st) { nx := fun _ H' => Q .non H', rt := Q } (start N vs) H) : Df P w F mg base (k + 1) x sp := by
  obtain ⟨f, fd, h1, h2, h3⟩ := G
  exact df_of h1 h2 S h3 len fun cdv A outer s H vs Q E hr hs => hbody _ vs H Q E f cdv A outer s rfl hr hs
end
/-! ### sides -/
abbrev Side := Fin 6
def ax (s : Side) : Nat := s.val / 2
def stp (s : Side) : Int := if s.val % 2 = 0 then -1 else 1
def opp (s : Side) : Side := ([1, 0, 3, 2, 5, 4] : List Side).getD s.val 0
def sname (s : Side) : Str := (["-x", "+x", "-y", "+y", "-z", "+z"] : List Str).getD s.val "-x"
theorem sname_inj : ∀ s t : Side, sname s = sname t → s = t := by decide +kernel
theorem ax_lt (s : Side) : ax s < 3 := by unfold ax; omega
def rSd : Rel Side := ⟨fun _ v s => v = .str (sname s), fun _ h => h⟩
def allS : List Side := [0, 1, 2, 3, 4, 5]
theorem mem_allS : ∀ s : Side, s ∈ allS := by decide +kernel
/-- a dict of the module by the six sides -/
def KS (F : PySem.W.Frag) (w : World) (p : Addr) (f : Side → V) : Prop := ∀ s, KDct F w p (sname s) (f s)
structure TX (w : World) (F : PySem.W.Frag) (mg : Str → Option Value) : Prop where
  axisOf : ∃ p, mg "AXIS_OF" = some (.ref p) ∧ KS F w p fun s => .int (ax s)
  stepOf : ∃ p, mg "STEP_OF" = some (.ref p) ∧ KS F w p fun s => .int (stp s)
  oppOf : ∃ p, mg "OPPOSITE" = some (.ref p) ∧ KS F w p fun s => .str (sname (opp s))
  sides : ∃ p, mg "SIDES" = some (.ref p) ∧ ∀ H, SqT F H p (allS.map fun s => .str (sname s))
  bTuple : mg "tuple" = none
  bSorted : mg "sorted" = none
  bZip : mg "zip" = none
  bRange : mg "range" = none
  bList : mg "list" = none
  bEnum : mg "enumerate" = none
  bLen : mg "len" = none
  bAny : mg "any" = none
  bAll : mg "all" = none
  bSum : mg "sum" = none
section
variable {X : Cx} {α : Type} {σ : L2.St} {K : Hp} {r : Rel α} {a : α}
theorem ev_ks {x : Str} {i : Expr} {p pos : Pos} {d : Addr} {f : Side → V} {s : Side} (hm : X.mg x = some (.ref d)) (h : KS X.K X.w d f) (hi : EV X i σ K rSd s) (hr : ∀ K1, r.r K1 (f s) a) (hg : Gl X x := by rfl) (hd : (x == ("__debug__" : Str)) = false := by decide) (hs : PlainIx i := by exact fun _ _ => rfl) :
    EV X (.Subscript (.Name x p) i pos) σ K r a := fun H le Q q =>
  PE.to (pe_ix ix_kdict (peW _) (peW i) hs) (ev_glob (v := .ref d) (r := rVal) (a := .ref d) hm rfl rfl hg hd H le _ fun v K1 H1 n1 hv => hi.mono n1.le H1 n1.in_ _ fun u K2 H2 n2 hu => ⟨d, sname s, f s, hv, hu, h s, q _ K2 H2 (n1.trans n2) (hr K2)⟩)
theorem ev_sides {p : Pos} {d : Addr} (hm : X.mg "SIDES" = some (.ref d)) (h : ∀ H, SqT X.K H d (allS.map fun s => .str (sname s))) (hg : Gl X "SIDES" := by rfl) : EV X (.Name "SIDES" p) σ K (rTupL X.K rSd) allS :=
  ev_glob (v := .ref d) hm rfl ⟨d, _, rfl, h K, by
    have : ∀ l : List Side, Paired (rSd.r K) (l.map fun s => .str (sname s)) l := fun l => by
      induction l with
      | nil => exact .nil
      | cons x l ih => exact .cons rfl ih
    exact this _⟩ hg (by decide)
end
abbrev gt2 (F : PySem.W.Frag) (i j : Nat) : TG := gTup F 2 (gCons (gName i) (gCons (gName j) gNil))
abbrev gt3 (F : PySem.W.Frag) (i j l : Nat) : TG := gTup F 3 (gCons (gName i) (gCons (gName j) (gCons (gName l) gNil)))
section
variable {X : Cx} {p1 p2 p3 pos : Pos} {k : Nat} {x y z : Str}
theorem pg_n2 (i j : Nat) (hc : X.calm = true) (hN : X.N.Nodup) (hi : X.N[i]? = some x) (hj : X.N[j]? = some y) (lx : Loc X.env.scope x) (ly : Loc X.env.scope y) (fx : X.fn x = true ∨ X.env.scope.names.lookup x = some .local) (fy : X.fn y = true ∨ X.env.scope.names.lookup y = some .local) :
    PG X (.Tuple [.Name x p1, .Name y p2] k pos) (gTup X.K 2 (gCons (gName i) (gCons (gName j) gNil))) := pg_tup hc (pgs_cons (pg_name hN hi lx fx) (pgs_cons (pg_name hN hj ly fy) pgs_nil))
theorem pg_n3 (i j l : Nat) (hc : X.calm = true) (hN : X.N.Nodup) (hi : X.N[i]? = some x) (hj : X.N[j]? = some y) (hl : X.N[l]? = some z) (lx : Loc X.env.scope x) (ly : Loc X.env.scope y) (lz : Loc X.env.scope z) (fx : X.fn x = true ∨ X.env.scope.names.lookup x = some .local) (fy : X.fn y = true ∨ X.env.scope.names.lookup y = some .local)
    (fz : X.fn z = true ∨ X.env.scope.names.lookup z = some .local) :
    PG X (.Tuple [.Name x p1, .Name y p2, .Name z p3] k pos) (gTup X.K 3 (gCons (gName i) (gCons (gName j) (gCons (gName l) gNil)))) := pg_tup hc (pgs_cons (pg_name hN hi lx fx) (pgs_cons (pg_name hN hj ly fy) (pgs_cons (pg_name hN hl lz fz) pgs_nil)))
theorem pg_l3 (i j l : Nat) (hc : X.calm = true) (hN : X.N.Nodup) (hi : X.N[i]? = some x) (hj : X.N[j]? = some y) (hl : X.N[l]? = some z) (lx : Loc X.env.scope x) (ly : Loc X.env.scope y) (lz : Loc X.env.scope z) (fx : X.fn x = true ∨ X.env.scope.names.lookup x = some .local) (fy : X.fn y = true ∨ X.env.scope.names.lookup y = some .local)
    (fz : X.fn z = true ∨ X.env.scope.names.lookup z = some .local) :
    PG X (.Tuple [.Name x p1, .Name y p2, .Name z p3] k pos) (gLst X.K 3 (gCons (gName i) (gCons (gName j) (gCons (gName l) gNil)))) := pg_lst hc (pgs_cons (pg_name hN hi lx fx) (pgs_cons (pg_name hN hj ly fy) (pgs_cons (pg_name hN hl lz fz) pgs_nil)))
end
theorem emit_t {α β : Type} (em : α → List β) : emit tt em = em := funext fun a => if_pos rfl
theorem flat_len {α β : Type} (f : α → List β) (n : Nat) : ∀ xs : List α, (∀ a ∈ xs, (f a).length ≤ n) → (xs.flatMap f).length ≤ xs.length * n
  | [], _ => by simp
  | x :: xs, h => by
    rw [List.flatMap_cons, List.length_append, List.length_cons, Nat.succ_mul, Nat.add_comm]
    exact Nat.add_le_add (flat_len f n xs fun a ha => h a (List.mem_cons_of_mem _ ha)) (h x (List.mem_cons_self ..))

/-! ### the defs -/
abbrev stTriples : Stmt := top 18
abbrev stReplaced : Stmt := top 19
abbrev stNeighbor : Stmt := top 20
abbrev stAscending : Stmt := top 21
abbrev stMerged : Stmt := top 22
abbrev stParts : Stmt := top 23
abbrev stCoarse : Stmt := top 24
abbrev stSurface : Stmt := top 25
abbrev stBeside : Stmt := top 26
section
variable {P : Program} {w : World} {F : PySem.W.Frag} {mg : Str → Option Value} {base : Heap}
def triplesF (xs ys zs : List Int) : List Cell := xs.flatMap fun i => ys.flatMap fun j => zs.map fun k => (i, j, k)
theorem df_triples (G : FnF F mg "triples" stTriples ["across", "along", "up"]) : Df P w F mg base 1 "triples" (sp3 (rLst F rInt) (rLst F rInt) (rLst F rInt) (rLst F rCell) (fun a b c => a.length * (b.length * c.length) ≤ sz) triplesF) := by
  have S : FnScope ["across", "along", "up", "i", "j", "k"] ["across", "along", "up"] (defScope stTriples) := ⟨rfl, rfl, rfl, by decide +kernel, rfl, by decide +kernel, by decide +kernel⟩
  refine df_fn G S (fun vs H Q E ⟨K, v, a, u, b, w, c, e, _⟩ => by rw [e]; rfl) ?_
  rintro X _ H Q E f cdv A outer s rfl hr ⟨K, v, a, u, b, w, c, rfl, l, h1, h2, h3, hz, q⟩
  have ee : (a.flatMap (emit tt fun i => b.flatMap (emit tt fun j => c.flatMap (emit tt fun k => [(i, j, k)])))) = triplesF a b c := by
    simp only [emit_t]
    unfold triplesF
    congr 1; funext i; congr 1; funext j
    exact flat_one fun _ _ => rfl
  refine ss_one (s_ret l (ev_cd (cd_l3 (own := [("i", 3), ("j", 4), ("k", 5)]) (vs1 := [4, 5]) (vs2 := [5]) (p := tt) (p1 := fun _ => tt) (p2 := fun _ _ => tt) (f := fun i j k => (i, j, k)) (xs := a) (ys := fun _ => b) (zs := fun _ _ => c) (rr := rCell) (r := rInt) (r1 := rInt) (r2 := rInt)
    rfl S.nd (es_list (ev_name 0 rfl h1)) (blkOk_by (N := ["across", "along", "up", "i", "j", "k"]) (sc := defScope stTriples) (by decide +kernel)) (fun _ _ _ _ _ => pg_name (i := 3) S.nd rfl (Or.inl rfl)) (fun _ _ _ _ _ => pg_name (i := 4) S.nd rfl (Or.inl rfl)) (fun _ _ _ _ _ => pg_name (i := 5) S.nd rfl (Or.inl rfl)) (by decide) (by decide) ?_ ?_)) ?_)
  · rw [ee]
    refine Nat.le_trans (flat_len _ (b.length * c.length) a fun i _ => flat_len _ c.length b fun j _ => ?_) hz
    rw [List.length_map]; exact Nat.le_refl _
  · refine fun i a K2 x ea l2 hr => ⟨_, gd_name, wipe_t (by decide), fun s H0 C cl fp => ⟨rfl, fun _ => ⟨(es_list (ev_name 1 rfl h2)).mono l2, fun i2 b2 K3 y eb l3 hr2 => ⟨_, gd_name, wipe_t (by decide), rfl, fun _ => ⟨(es_list (ev_name 2 rfl h3)).mono (l2.trans l3), fun i3 c3 K4 z ec l4 hr3 => ⟨_, gd_name, wipe_t (by decide), rfl, fun _ => ?_⟩⟩⟩⟩⟩⟩
    exact ev_cell (ev_name 3 rfl hr) (ev_name 4 rfl hr2) (ev_name 5 rfl hr3)
  · rw [ee]
    exact fun v K' H' n hv => q _ K' H' n hv
/-- a cell with one of its three changed -/
def setAx (c : Cell) (j : Nat) (v : Int) : Cell := if j = 0 then (v, c.2.1, c.2.2) else if j = 1 then (c.1, v, c.2.2) else (c.1, c.2.1, v)
def rNat : Rel Nat := ⟨fun _ v j => v = .int (j : Int), fun _ h => h⟩
theorem df_replaced (G : FnF F mg "replaced" stReplaced ["triple", "axis", "value"]) : Df P w F mg base 1 "replaced" (sp3 rCell rNat rInt rCell (fun _ j _ => j < 3) setAx) := by
  have S : FnScope ["triple", "axis", "value"] ["triple", "axis", "value"] (defScope stReplaced) := ⟨rfl, rfl, rfl, by decide +kernel, rfl, by decide +kernel, by decide +kernel⟩
  refine df_fn G S (fun vs H Q E ⟨K, v, a, u, b, w, c, e, _⟩ => by rw [e]; rfl) ?_
  rintro X _ H Q E f cdv A outer s rfl hr ⟨K, v, c, u, j, w, x, rfl, l, h1, h2, h3, hj, q⟩
  refine ss_one (s_ret (r := rCell) (a := setAx c j x) l (ev_tup (ea_starT (ev_cellTo (j := j) (ev_name 0 rfl h1) (ev_name 1 rfl h2) hj) (ea_cons (ev_name 2 rfl h3) (ea_starT (ev_cellFrom (j := j + 1) (ev_name 0 rfl h1) ((ev_add (ev_name 1 rfl h2) ev_int).of (by push_cast; rfl)) hj (Nat.succ_pos _)) ea_nil mo_nil) (mo_star mo_nil)) (mo_cons (mo_star mo_nil))) fun vs K' p le hp => ?_)
    fun v K' H' n hv => q _ K' H' n hv)
  obtain ⟨ws, _, e1, hw, v1, _, e2, hv1, ws2, _, e3, hw2, e4⟩ := hp
  subst e4; subst e3; subst e2; subst e1
  obtain rfl : v1 = .int x := hv1
  rw [paired_int hw, paired_int hw2]
  obtain ⟨c0, c1, c2⟩ := c
  refine ⟨sz3 (by simp; omega), fun hp' => ⟨p, rfl, co_tup.mpr ?_⟩⟩
  rw [upd_same]
  match j, hj with
  | 0, _ => rfl
  | 1, _ => rfl
  | 2, _ => rfl
def nb (c : Cell) (s : Side) : Cell := setAx c (ax s) (axOf c (ax s) + stp s)
theorem df_neighbor (T : TX w F mg) (D1 : Df P w F mg base 1 "replaced" (sp3 rCell rNat rInt rCell (fun _ j _ => j < 3) setAx)) (G : FnF F mg "neighbor" stNeighbor ["cell", "side"]) : Df P w F mg base 2 "neighbor" (sp2 rCell rSd rCell (fun _ _ => True) nb) := by
  have S : FnScope ["cell", "side", "axis"] ["cell", "side"] (defScope stNeighbor) := ⟨rfl, rfl, rfl, by decide +kernel, rfl, by decide +kernel, by decide +kernel⟩
  refine df_fn G S (fun vs H Q E ⟨K, v, a, u, b, e, _⟩ => by rw [e]; rfl) ?_
  rintro X _ H Q E f cdv A outer s rfl hr ⟨K, v, c, u, sd, rfl, l, h1, h2, _, q⟩
  obtain ⟨p1, m1, k1⟩ := T.axisOf
  obtain ⟨p2, m2, k2⟩ := T.stepOf
  refine ss_cons (s_asg (i := 2) S.nd rfl (Or.inl rfl) l (ev_ks (r := rNat) (a := ax sd) m1 k1 (ev_name 1 rfl h2) fun _ => rfl) fun v1 K1 H1 n1 hv1 => ?_)
  refine ss_one (s_ret n1.in_ (ev_call3 D1 hr (ev_name 0 rfl (rCell.mono n1.le h1)) (ev_name 2 rfl hv1) (ev_add (ev_cix (ev_name 0 rfl (rCell.mono n1.le h1)) (ev_name 2 rfl hv1) (ax_lt sd)) (ev_ks (r := rInt) (a := stp sd) m2 k2 (ev_name 1 rfl h2) fun _ => rfl)) (ax_lt sd)) fun v K' H' n hv => q _ K' H' (n1.trans n) hv)
/-- ascending: each once, rising -/
def asc (xs : List Int) : List Int := sortZ ((dputs [] (xs.map fun x => (x, true))).map (·.1))
theorem df_ascending (T : TX w F mg) (G : FnF F mg "ascending" stAscending ["values"]) : Df P w F mg base 1 "ascending" (sp1 (rLst F rInt) (rTupL F rInt) (fun xs => xs.length < 64) asc) := by
  have S : FnScope ["values", "value"] ["values"] (defScope stAscending) := ⟨rfl, rfl, rfl, by decide +kernel, rfl, by decide +kernel, by decide +kernel⟩
  refine df_fn G S (fun vs H Q E ⟨K, v, a, e, _⟩ => by rw [e]; rfl) ?_
  rintro X _ H Q E f cdv A outer s rfl hr ⟨K, v, xs, rfl, l, h1, hz, q⟩
  refine ss_one (s_ret (a := asc xs) l (ev_tupleOf T.bTuple (ev_sortedDI (r := rBl) rfl T.bSorted ?_ (ev_cd ?_))) fun v K' H' n hv => q _ K' H' n hv)
  · have := dputs_length (xs.map fun x => (x, true)) ([] : List (Int × Bool))
    rw [List.length_map] at this
    simp only [List.length_nil] at this
    omega
  · refine cd_dIt (own := [("value", 1)]) (f := fun x => (x, true)) (rr := rBl) rfl S.nd (es_list (ev_name 0 rfl h1)) (blkOk_by (N := ["values", "value"]) (sc := defScope stAscending) (by decide +kernel)) (fun _ _ _ _ _ => pg_name (i := 1) S.nd rfl (Or.inl rfl)) (Nat.le_trans (Nat.le_of_lt hz) (by decide)) ?_
    exact fun i a K2 x ea l2 hr => ⟨_, gd_name, wipe_t (by decide), fun s H0 C cl fp => ⟨ev_name 1 rfl hr, ev_bl⟩⟩
/-- merged_lines -/
def mergedF (a b : List (List Int)) : List (List Int) := (a.zip b).map fun z => asc (z.1 ++ z.2)
abbrev Lines := List (List Int)
theorem df_merged (T : TX w F mg) (D1 : Df P w F mg base 1 "ascending" (sp1 (rLst F rInt) (rTupL F rInt) (fun xs => xs.length < 64) asc)) (G : FnF F mg "merged_lines" stMerged ["one", "other"]) :
    Df P w F mg base 2 "merged_lines" (sp2 (rTupL F (rTupL F rInt)) (rTupL F (rTupL F rInt)) (rTupL F (rTupL F rInt)) (fun a b => (∀ x ∈ a, x.length < 32) ∧ (∀ x ∈ b, x.length < 32) ∧ a.length ≤ 1000) mergedF) := by
  have S : FnScope ["one", "other", "mine", "their"] ["one", "other"] (defScope stMerged) := ⟨rfl, rfl, rfl, by decide +kernel, rfl, by decide +kernel, by decide +kernel⟩
  refine df_fn G S (fun vs H Q E ⟨K, v, a, u, b, e, _⟩ => by rw [e]; rfl) ?_
  rintro X _ H Q E f cdv A outer s rfl hr ⟨K, v, a, u, b, rfl, l, h1, h2, ⟨ha, hb, hz⟩, q⟩
  refine ss_one (s_ret (a := mergedF a b) l (ev_tupleOf T.bTuple (ev_cd ?_)) fun v K' H' n hv => q _ K' H' n hv)
  refine cd_l1t (g := gt2 F 2 3) (own := [("mine", 2), ("their", 3)]) (xs := a.zip b) (f := fun z => asc (z.1 ++ z.2)) (rr := rTupL F rInt) rfl S.nd (es_zipT T.bZip (ev_name 0 rfl h1) (ev_name 1 rfl h2)) (blkOk_by (N := ["one", "other", "mine", "their"]) (sc := defScope stMerged) (by decide +kernel))
    (fun _ _ _ _ _ => pg_n2 2 3 rfl S.nd rfl rfl (Or.inl rfl) (Or.inl rfl) (Or.inr rfl) (Or.inr rfl)) ?_ ?_
  · rw [List.length_zip]
    exact Nat.le_trans (Nat.min_le_left _ _) (Nat.le_trans hz (by decide))
  · rintro i ⟨x, y⟩ K2 z ea l2 ⟨p, v1, v2, rfl, hp, hx, hy⟩
    refine ⟨_, gd_tup2 hp gd_name gd_name, (wipe_set (by decide)).trans (wipe_t (by decide)), fun s H0 C cl fp => ?_⟩
    have hmem := List.mem_of_getElem? ea
    have m1 := ha x (List.of_mem_zip hmem).1
    have m2 := hb y (List.of_mem_zip hmem).2
    refine ev_call1 (a := x ++ y) D1 hr (ev_lst (ea_starT (ev_name 2 rfl hx) (ea_starT (ev_name 3 rfl hy) ea_nil mo_nil) (mo_star mo_nil)) fun vs K' p le hp => ?_) (by rw [List.length_append]; omega)
    obtain ⟨ws, _, e1, hw, ws2, _, e3, hw2, e4⟩ := hp
    subst e4; subst e3; subst e1
    rw [paired_int hw, paired_int hw2, List.append_nil, ← List.map_append]
    exact ⟨sz3 (by simp; omega), fun hp' => ⟨p, _, rfl, SqL.of upd_same, paired_of_int _⟩⟩
/-- parts_of_intervals -/
def placeF (xs : List Int) : List (Int × Int) := dputs [] ((idx xs).map fun z => (z.2, z.1))
def plc (xs : List Int) (x : Int) : Int := (dget (placeF xs) x).getD 0
def partsF (a b : List Int) : List (List Int) := (a.zip (a.drop 1)).map fun z => rng (plc b z.1) (plc b z.2)
def PartsOk (a b : List Int) : Prop := (∀ x ∈ a, (dget (placeF b) x).isSome = true) ∧ (∀ x ∈ a, 0 ≤ plc b x ∧ plc b x ≤ 1000) ∧ a.length ≤ 1000 ∧ b.length ≤ 1000
theorem plc_get {xs : List Int} {x : Int} (h : (dget (placeF xs) x).isSome = true) : dget (placeF xs) x = some (plc xs x) := by
  unfold plc
  cases e : dget (placeF xs) x with
  | none => rw [e] at h; cases h
  | some v => rfl
theorem df_parts (T : TX w F mg) (G : FnF F mg "parts_of_intervals" stParts ["lines", "finer"]) : Df P w F mg base 1 "parts_of_intervals" (sp2 (rTupL F rInt) (rTupL F rInt) (rLst F (rLst F rInt)) PartsOk partsF) := by
  have S : FnScope ["lines", "finer", "place", "line", "index", "low", "high"] ["lines", "finer"] (defScope stParts) := ⟨rfl, rfl, rfl, by decide +kernel, rfl, by decide +kernel, by decide +kernel⟩
  refine df_fn G S (fun vs H Q E ⟨K, v, a, u, b, e, _⟩ => by rw [e]; rfl) ?_
  rintro X _ H Q E f cdv A outer s rfl hr ⟨K, v, a, u, b, rfl, l, h1, h2, ⟨hx, hb, hz, hz2⟩, q⟩
  have hu := hu_of hr
  refine ss_cons (s_asg (r := rDI rInt) (a := placeF b) (i := 2) S.nd rfl (Or.inr rfl) l (ev_cd ?_) fun v1 K1 H1 n1 hv1 => ?_)
  · refine cd_dIt (g := gt2 F 4 3) (own := [("index", 4), ("line", 3)]) (xs := idx b) (f := fun z => (z.2, z.1)) (rr := rInt) rfl S.nd (es_enT T.bEnum (ev_name 1 rfl h2)) (blkOk_by (N := ["lines", "finer", "place", "line", "index", "low", "high"]) (sc := defScope stParts) (by decide +kernel))
      (fun _ _ _ _ _ => pg_n2 4 3 rfl S.nd rfl rfl (Or.inl rfl) (Or.inl rfl) (Or.inr rfl) (Or.inr rfl)) (by rw [idx_length]; exact Nat.le_trans hz2 (by decide)) ?_
    rintro i ⟨x, y⟩ K2 z ea l2 ⟨p, v1, v2, rfl, hp, hx, hy⟩
    exact ⟨_, gd_tup2 hp gd_name gd_name, (wipe_set (by decide)).trans (wipe_t (by decide)), fun s H0 C cl fp => ⟨ev_name 3 rfl hy, ev_name 4 rfl hx⟩⟩
  · refine ss_one (s_ret (a := partsF a b) n1.in_ (ev_cd ?_) fun v K' H' n hv => q _ K' H' (n1.trans n) hv)
    refine cd_l1t (g := gt2 F 5 6) (own := [("low", 5), ("high", 6)]) (xs := a.zip (a.drop 1)) (f := fun z => rng (plc b z.1) (plc b z.2)) (rr := rLst F rInt) rfl S.nd (es_zipT T.bZip (ev_name 0 rfl ((rTupL F rInt).mono n1.le h1)) (ev_dropT (n := 1) (ev_name 0 rfl ((rTupL F rInt).mono n1.le h1)) ev_int)) (blkOk_by (N := ["lines", "finer", "place", "line", "index", "low", "high"]) (sc := defScope stParts) (by decide +kernel))
      (fun _ _ _ _ _ => pg_n2 5 6 rfl S.nd rfl rfl (Or.inl rfl) (Or.inl rfl) (Or.inr rfl) (Or.inr rfl)) ?_ ?_
    · rw [List.length_zip]
      exact Nat.le_trans (Nat.min_le_left _ _) (Nat.le_trans hz (by decide))
    · rintro i ⟨x, y⟩ K2 z ea l2 ⟨p, v3, v4, rfl, hp, hx3, hy4⟩
      have hm := List.of_mem_zip (List.mem_of_getElem? ea)
      have m1 := hm.1
      have m2 := List.mem_of_mem_drop hm.2
      refine ⟨_, gd_tup2 hp gd_name gd_name, (wipe_set (by decide)).trans (wipe_t (by decide)), fun s H0 C cl fp => ?_⟩
      have b1 := hb x m1
      have b2 := hb y m2
      refine ev_listRg rfl T.bList T.bRange (ev_dgetI hu (ev_name 2 rfl ((rDI rInt).mono l2 hv1)) (ev_name 5 rfl hx3) (plc_get (hx x m1))) (ev_dgetI hu (ev_name 2 rfl ((rDI rInt).mono l2 hv1)) (ev_name 6 rfl hy4) (plc_get (hx y m2))) ?_
      exact show RgOk (plc b x) (plc b y) from .of_le b1.1 (by omega) (by omega) b2.1
/-- coarse_cells -/
def insF (a b : Lines) : List (List (List Int)) := (a.zip b).map fun z => partsF z.1 z.2
def blockF (ins : List (List (List Int))) (c : Cell) : List Cell := triplesF (((ins.getD 0 []).getD c.1.toNat [])) (((ins.getD 1 []).getD c.2.1.toNat [])) (((ins.getD 2 []).getD c.2.2.toNat []))
def coarseE (a b : Lines) (cs : List Cell) : List (Cell × Cell) := cs.flatMap fun c => (blockF (insF a b) c).flatMap fun d => [(d, c)]
def coarseF (a : Lines) (cs : List Cell) (b : Lines) : List (Cell × Cell) := dputs [] (coarseE a b cs)
structure CoarseOk (a : Lines) (cs : List Cell) (b : Lines) : Prop where
  la : a.length = 3
  lb : b.length = 3
  ok : ∀ z ∈ a.zip b, PartsOk z.1 z.2
  bx : ∀ c ∈ cs, ∀ j < 3, 0 ≤ axOf c j ∧ (axOf c j).toNat < ((insF a b).getD j []).length
  tz : ∀ c ∈ cs, (((insF a b).getD 0 []).getD c.1.toNat []).length * ((((insF a b).getD 1 []).getD c.2.1.toNat []).length * (((insF a b).getD 2 []).getD c.2.2.toNat []).length) ≤ sz
  sz : (coarseE a b cs).length ≤ sz
theorem getD_get {α : Type} {l : List α} {i : Nat} {d : α} (h : i < l.length) : l[i]? = some (l.getD i d) := by simp [List.getD, h]
theorem nat_of {i : Int} (h : 0 ≤ i) : i = ((i.toNat : Nat) : Int) := (Int.toNat_of_nonneg h).symm
theorem df_coarse {α : Type} {r : Rel α} (T : TX w F mg) (D1 : Df P w F mg base 1 "triples" (sp3 (rLst F rInt) (rLst F rInt) (rLst F rInt) (rLst F rCell) (fun a b c => a.length * (b.length * c.length) ≤ sz) triplesF)) (D2 : Df P w F mg base 1 "parts_of_intervals" (sp2 (rTupL F rInt) (rTupL F rInt) (rLst F (rLst F rInt)) PartsOk partsF))
    (G : FnF F mg "coarse_cells" stCoarse ["lines", "cells", "finer"]) : Df P w F mg base 2 "coarse_cells" (sp3 (rTupL F (rTupL F rInt)) (rDC r) (rTupL F (rTupL F rInt)) (rDC rCell) (fun a l b => CoarseOk a (l.map (·.1)) b) fun a l b => coarseF a (l.map (·.1)) b) := by
  have S : FnScope ["lines", "cells", "finer", "inside", "found", "i", "j", "k", "cell", "mine", "fine"] ["lines", "cells", "finer"] (defScope stCoarse) := ⟨rfl, rfl, rfl, by decide +kernel, rfl, by decide +kernel, by decide +kernel⟩
  refine df_fn G S (fun vs H Q E ⟨K, v, a, u, b, w, c, e, _⟩ => by rw [e]; rfl) ?_
  rintro X _ H Q E f cdv A outer s rfl hr ⟨K, va, a, vc, cs, vb, b, rfl, l, h1, h2, h3, ok, q⟩
  have hu := hu_of hr
  refine ss_cons (s_cd (rr := rLst F (rLst F (rLst F rInt))) (z := insF a b) (i := 3) S.nd rfl l ?_ fun v1 K1 H1 n1 hv1 => ?_)
  · refine cd_l1t (g := gt2 F 9 10) (own := [("mine", 9), ("fine", 10)]) (xs := a.zip b) (f := fun z => partsF z.1 z.2) (rr := rLst F (rLst F rInt)) rfl S.nd (es_zipT T.bZip (ev_name 0 rfl h1) (ev_name 2 rfl h3)) (blkOk_by (N := ["lines", "cells", "finer", "inside", "found", "i", "j", "k", "cell", "mine", "fine"]) (sc := defScope stCoarse) (by decide +kernel))
      (fun _ _ _ _ _ => pg_n2 9 10 rfl S.nd rfl rfl (Or.inl rfl) (Or.inl rfl) (Or.inr rfl) (Or.inr rfl)) ?_ ?_
    · rw [List.length_zip, ok.la, ok.lb]; decide
    · rintro i ⟨x, y⟩ K2 z ea l2 ⟨p, v3, v4, rfl, hp, hx3, hy4⟩
      refine ⟨_, gd_tup2 hp gd_name gd_name, (wipe_set (by decide)).trans (wipe_t (by decide)), fun s H0 C cl fp => ?_⟩
      exact ev_call2 (a := x) (b := y) D2 hr (ev_name 9 rfl hx3) (ev_name 10 rfl hy4) (ok.ok _ (List.mem_of_getElem? ea))
  · obtain ⟨pd, kvs, e2, hd2, hk2⟩ := id h2
    subst e2
    refine ss_cons (s_newT (i := 4) S.nd rfl (Or.inl rfl) fun p hp => ?_)
    have hin : (insF a b).length = 3 := by simp [insF, ok.la, ok.lb]
    have nE : era (upd H1 p (.dT [])) p = H1 := by rw [era_upd, era_none hp]
    refine ss_sd (bs := coarseE a b (cs.map (·.1))) (ys := []) (F := fillDC rCell) (Sg := fun σ => ∃ a b c d e f, σ = [some va, some (.ref pd), some vb, some v1, some (.ref p), a, b, c, d, e, f]) (sd_forL (K := K1) (em := fun c => (blockF (insF a b) c).flatMap fun d => [(d, c)]) (passes_of rfl) rfl (pg_n3 5 6 7 rfl S.nd rfl rfl rfl (Or.inl rfl) (Or.inl rfl) (Or.inl rfl) (Or.inl rfl) (Or.inl rfl) (Or.inl rfl)) ⟨_, _, _, _, _, _, rfl⟩ (.inr (.inl ⟨kvs, rfl⟩)) (n1.le pd _ hd2) (es_keysC (ev_name 1 rfl rfl) ((rDC r).mono n1.le h2)) ?_) (by rw [nE]; exact n1.in_) upd_same ((fillDC rCell).nil K1) (by simpa using ok.sz) fun σ3 K3 H3 o3 sg n3 e3 ob3 => ?_
    · rintro i c σ' K2 x ea ⟨a1, a2, a3, a4, a5, a6, rfl⟩ l2 hx
      obtain ⟨pc, rfl, hpc⟩ := id hx
      refine ⟨_, gd_tup3 (SqT.of (co_tup.mp hpc)) gd_name gd_name gd_name, ?_⟩
      have hm := List.mem_of_getElem? ea
      obtain ⟨b0, g0⟩ := ok.bx c hm 0 (by decide)
      obtain ⟨b1, g1⟩ := ok.bx c hm 1 (by decide)
      obtain ⟨b2, g2⟩ := ok.bx c hm 2 (by decide)
      have hv2 := (rLst F (rLst F (rLst F rInt))).mono l2 hv1
      refine sd_one (SD1.imp (Sg := fun σ => ∃ d e f, σ = [some va, some (.ref pd), some vb, some v1, some (.ref p), some (.int c.1), some (.int c.2.1), some (.int c.2.2), d, e, f]) (sd_for (r := rCell) (xs := blockF (insF a b) c) (em := fun d => [(d, c)]) (passes_of rfl) rfl (pg_name (i := 8) S.nd rfl (Or.inl rfl)) ⟨_, _, _, rfl⟩ (es_list (ev_call3 D1 hr (ev_itL (ev_itL (j := 0) (ev_name 3 rfl hv2) ev_int (getD_get (d := []) (by rw [hin]; decide))) ((ev_name (r := rInt) 5 rfl rfl).of (nat_of b0)) (getD_get (d := []) g0)) (ev_itL (ev_itL (j := 1) (ev_name 3 rfl hv2) ev_int (getD_get (d := []) (by rw [hin]; decide))) ((ev_name (r := rInt) 6 rfl rfl).of (nat_of b1)) (getD_get (d := []) g1)) (ev_itL (ev_itL (j := 2) (ev_name 3 rfl hv2) ev_int (getD_get (d := []) (by rw [hin]; decide))) ((ev_name (r := rInt) 7 rfl rfl).of (nat_of b2)) (getD_get (d := []) g2)) (ok.tz c hm))) ?_) ?_)
      · rintro i2 d σ2 K4 x2 ea2 ⟨c4, c5, c6, rfl⟩ l4 hx2
        exact ⟨_, gd_name, sd_one (sd_dputC hu ⟨_, _, _, rfl⟩ (ev_cell (ev_name (r := rInt) (a := c.1) 5 rfl rfl) (ev_name (r := rInt) (a := c.2.1) 6 rfl rfl) (ev_name (r := rInt) (a := c.2.2) 7 rfl rfl)) (ev_name 4 rfl rfl) (ev_name 8 rfl hx2))⟩
      · rintro σ2 ⟨c4, c5, c6, rfl⟩
        exact ⟨_, _, _, _, _, _, rfl⟩
    · have hk := le_era_none n3.in_
      rw [nE] at n3
      exact ss_one (s_ret (n3.pubE e3).in_ (ev_name (v := .ref p) (i := 4) (by obtain ⟨a1, a2, a3, a4, a5, a6, rfl⟩ := sg; rfl) (fin_dC (by simpa using ob3) hk)) fun v K' H' n hv => q _ K' H' ((n1.trans (n3.pubE e3)).trans n) hv)
/-- surface_squares -/
def surfF (cs : List Cell) (isin : Cell → Bool) : List (Cell × Side) := cs.flatMap fun c => (allS.filter fun s => !isin (nb c s)).map fun s => (c, s)
def rSq (F : PySem.W.Frag) : Rel (Cell × Side) := ⟨fun H v k => ∃ p c, v = .ref p ∧ co H p = some (.tup [.ref c, .str (sname k.2)]) ∧ co H c = some (.tup [.int k.1.1, .int k.1.2.1, .int k.1.2.2]), fun le ⟨p, c, e, h1, h2⟩ => ⟨p, c, e, le p _ h1, le c _ h2⟩⟩
theorem ev_sq {X : Cx} {σ : L2.St} {K : Hp} {e f : Expr} {k : Nat} {pos : Pos} {c : Cell} {sd : Side} (h1 : EV X e σ K rCell c) (h2 : EV X f σ K rSd sd)
    (hs : starEach [e, f] X.env = (false, eval e X.env) :: starEach [f] X.env := by rfl) (hs2 : starEach [f] X.env = (false, eval f X.env) :: starEach [] X.env := by rfl) : EV X (.Tuple [e, f] k pos) σ K (rSq X.K) (c, sd) :=
  ev_tup (ea_cons h1 (ea_1 h2 hs2) (mo_cons mo_nil) hs) fun vs H' p l ⟨v, _, e1, ⟨pc, ec, hc⟩, w, _, e2, hw, e3⟩ => by
    subst e3; subst e2; subst e1; subst ec
    obtain rfl : w = .str (sname sd) := hw
    exact ⟨sz3 (by simp), fun hp => ⟨p, pc, rfl, co_tup.mpr upd_same, le_new' hp pc _ hc⟩⟩
theorem df_surface {α : Type} {r : Rel α} (T : TX w F mg) (D1 : Df P w F mg base 2 "neighbor" (sp2 rCell rSd rCell (fun _ _ => True) nb)) (G : FnF F mg "surface_squares" stSurface ["cells"]) :
    Df P w F mg base 3 "surface_squares" (sp1 (rDC r) (rLst F (rSq F)) (fun l => l.length ≤ 100000) fun l => surfF (l.map (·.1)) fun c => (dget l c).isSome) := by
  have S : FnScope ["cells", "cell", "side"] ["cells"] (defScope stSurface) := ⟨rfl, rfl, rfl, by decide +kernel, rfl, by decide +kernel, by decide +kernel⟩
  refine df_fn G S (fun vs H Q E ⟨K, v, a, e, _⟩ => by rw [e]; rfl) ?_
  rintro X _ H Q E f cdv A outer s rfl hr ⟨K, vc, cs, rfl, l, h1, hz, q⟩
  have hu := hu_of hr
  obtain ⟨ps, ms, ks⟩ := T.sides
  obtain ⟨pd, kvs, e2, hd2, hk2⟩ := id h1
  subst e2
  have em1 : ∀ c : Cell, allS.flatMap (emit (fun sd => !(dget cs (nb c sd)).isSome) fun sd => [(c, sd)]) = (allS.filter fun sd => !(dget cs (nb c sd)).isSome).map fun sd => (c, sd) := fun c => emit_one _ _ _
  have ee : ((cs.map (·.1)).flatMap (emit tt fun c => allS.flatMap (emit (fun sd => !(dget cs (nb c sd)).isSome) fun sd => [(c, sd)]))) = surfF (cs.map (·.1)) fun c => (dget cs c).isSome := by
    simp only [emit_t, em1]
    rfl
  refine ss_one (s_ret (a := surfF (cs.map (·.1)) fun c => (dget cs c).isSome) l (ev_cdL (u := .dT kvs) (d := pd) (.inr (.inl ⟨kvs, rfl⟩)) hd2 (ee ▸ cd_l2 (own := [("cell", 1), ("side", 2)]) (vs1 := [2]) (p := tt) (p1 := fun c sd => !(dget cs (nb c sd)).isSome) (f := fun c sd => (c, sd)) (xs := cs.map (·.1)) (ys := fun _ => allS) (rr := rSq F) (r := rCell) (r1 := rSd)
    rfl S.nd (es_keysC (ev_name 0 rfl rfl) h1) (blkOk_by (N := ["cells", "cell", "side"]) (sc := defScope stSurface) (by decide +kernel)) (fun _ _ _ _ _ => pg_name (i := 1) S.nd rfl (Or.inl rfl)) (fun _ _ _ _ _ => pg_name (i := 2) S.nd rfl (Or.inl rfl)) (by decide) ?_ ?_)) fun v K' H' n hv => q _ K' H' n hv)
  · rw [ee]
    refine Nat.le_trans (flat_len _ 6 _ fun c _ => ?_) (?_ : (cs.map (·.1)).length * 6 ≤ sz)
    · rw [List.length_map]; exact List.length_filter_le _ _
    · rw [List.length_map]; show _ ≤ 1000000; omega
  · refine fun i c K2 x ea l2 hc => ⟨_, gd_name, wipe_t (by decide), fun s H0 C cl fp => ⟨rfl, fun _ => ⟨es_tup (ev_sides ms ks), fun i2 sd K3 y eb l3 hs => ⟨_, gd_name, wipe_t (by decide), ?_, fun _ => ev_sq (ev_name 1 rfl (rCell.mono l3 hc)) (ev_name 2 rfl hs)⟩⟩⟩⟩
    exact et_notinC hu (ev_call2 D1 hr (ev_name 1 rfl (rCell.mono l3 hc)) (ev_name 2 rfl hs) trivial) (ev_name 0 rfl ((rDC r).mono (l2.trans l3) h1))
/-- line_beside -/
def beside (c : Cell) (s : Side) : Int := axOf c (ax s) + (if stp s > 0 then 1 else 0)
theorem df_beside (T : TX w F mg) (G : FnF F mg "line_beside" stBeside ["cell", "side"]) : Df P w F mg base 1 "line_beside" (sp2 rCell rSd rInt (fun _ _ => True) beside) := by
  have S : FnScope ["cell", "side"] ["cell", "side"] (defScope stBeside) := ⟨rfl, rfl, rfl, by decide +kernel, rfl, by decide +kernel, by decide +kernel⟩
  refine df_fn G S (fun vs H Q E ⟨K, v, a, u, b, e, _⟩ => by rw [e]; rfl) ?_
  rintro X _ H Q E f cdv A outer s rfl hr ⟨K, v, c, u, sd, rfl, l, h1, h2, _, q⟩
  obtain ⟨p1, m1, k1⟩ := T.axisOf
  obtain ⟨p2, m2, k2⟩ := T.stepOf
  refine ss_one (s_ret (a := beside c sd) l (ev_add (ev_cix (ev_name 0 rfl h1) (ev_ks (r := rInt) (a := ((ax sd : Nat) : Int)) m1 k1 (ev_name 1 rfl h2) fun _ => rfl) (ax_lt sd)) (ev_ifexp (b := decide ((0 : Int) < stp sd)) (et_gt (ev_ks (r := rInt) (a := stp sd) m2 k2 (ev_name 1 rfl h2) fun _ => rfl) ev_int) (fun e => ev_int.of ?_) fun e => ev_int.of ?_)) fun v K' H' n hv => q _ K' H' n hv)
  · rw [if_pos (of_decide_eq_true e)]
  · rw [if_neg (of_decide_eq_false e)]
end
end SN
end TQT

section TQM
set_option Elab.async false
set_option linter.all false
set_option maxRecDepth 100000
set_option maxHeartbeats 4000017
/-! QM: dicts whose keys are (cell, side): the model's own entries as a thing of the heap (NdO), read and written by data. -/
namespace SN
open PySem PySem.Spec PyProof.Rows L2
abbrev Sq := Cell × Side
def nk (k : Sq) : NestedKey := .tup [.tup [.num k.1.1, .num k.1.2.1, .num k.1.2.2], .text (sname k.2)]
theorem nk_inj (a b : Sq) (h : nk a = nk b) : a = b := by
  obtain ⟨⟨a1, a2, a3⟩, s⟩ := a
  obtain ⟨⟨b1, b2, b3⟩, t⟩ := b
  unfold nk at h
  simp only [NestedKey.tup.injEq, List.cons.injEq, NestedKey.num.injEq, NestedKey.text.injEq, and_true] at h
  obtain ⟨⟨h1, h2, h3⟩, h4⟩ := h
  subst h1; subst h2; subst h3
  rw [sname_inj s t h4]
abbrev Ent := NestedKey × Addr × Value
def NdP (P : Program) (w : World) (d : Addr) (xs : List Ent) (h : Heap) : Prop :=
  (d == sysModules) = false ∧ xs.length ≤ sizeLine ∧ ∃ o es ep, h.get? d = some o ∧ o.ExactDict ∧ o.data = .dict es ep ∧ es.toList = xs.map (entryOfKey (nestedKind P w)) ∧ (xs.map (·.1)).Nodup
def NdO (P : Program) (w : World) (d : Addr) (xs : List Ent) : HO := .ext (NdP P w d xs)
theorem ndp_st {P : Program} {w : World} {d : Addr} {xs : List Ent} (h1 h2 : Heap) (h : NdP P w d xs h1) (k : ∀ o, h1.get? d = some o → h2.get? d = some o) : NdP P w d xs h2 := by
  obtain ⟨a, b, o, es, ep, c, r⟩ := h
  exact ⟨a, b, o, es, ep, k o c, r⟩
theorem nd_ok {P : Program} {w : World} {H : Hp} {h : Heap} {d : Addr} {xs : List Ent} (p : NdP P w d xs h) : ObjOk P w H h d (NdO P w d xs) := by
  obtain ⟨a, b, o, es, ep, c, r⟩ := id p
  exact ⟨p, ⟨o, c⟩, ndp_st⟩
/-- the key k stands at b -/
def Mk (H : Hp) (b : Addr) (k : Sq) : Prop := ∃ c, H b = some (.tup [.ref c, .str (sname k.2)]) ∧ H c = some (.tup [.int k.1.1, .int k.1.2.1, .int k.1.2.2])
theorem mk_is {P : Program} {w : World} {H : Hp} {h : Heap} {b : Addr} {k : Sq} (ok : HOk P w H h) (m : Mk H b k) : (nestedKind P w).is h (nk k) b := by
  obtain ⟨c, h1, h2⟩ := m
  obtain ⟨_, its, r, o, g1, g2, n, g3⟩ := (show ObjOk P w H h b (.tup [.ref c, .str (sname k.2)]) from ok b _ h1)
  obtain ⟨_, its2, r2, o2, g4, g5, n2, g6⟩ := (show ObjOk P w H h c (.tup [.int k.1.1, .int k.1.2.1, .int k.1.2.2]) from ok c _ h2)
  cases r with
  | cons a r =>
    cases r with
    | cons b' r =>
      cases r
      cases r2 with
      | cons a2 r2 =>
        cases r2 with
        | cons b2 r2 =>
          cases r2 with
          | cons c2 r2 =>
            cases r2
            cases a
            obtain ⟨t, rfl⟩ := b'
            obtain ⟨t1, rfl⟩ := a2
            obtain ⟨t2, rfl⟩ := b2
            obtain ⟨t3, rfl⟩ := c2
            exact ⟨.tup g1 g2 g3 (.cons (.tup g4 g5 g6 (.cons (.int _ _) (.cons (.int _ _) (.cons (.int _ _) .nil)))) (.cons (.text _ _) .nil)), by simp [nk, NestedKey.depth, NestedKey.depthAll]⟩
theorem nd_of {P : Program} {w : World} {H : Hp} {h : Heap} {d : Addr} {xs : List Ent} (ok : HOk P w H h) (e : Rd H d (NdO P w d xs)) (ent : ∀ x ∈ xs, ∃ k, x.1 = nk k ∧ Mk H x.2.1 k) : (d == sysModules) = false ∧ xs.length ≤ sizeLine ∧ h.DictOfH (nestedKind P w) d xs := by
  obtain ⟨⟨a, b, o, es, ep, c, r1, r2, r3, r4⟩, _⟩ := (show ObjOk P w H h d (NdO P w d xs) from rd_of ok e)
  refine ⟨a, b, o, es, ep, c, r1, r2, r3, fun x hx => ?_, r4⟩
  obtain ⟨k, e1, m⟩ := ent x hx
  rw [e1]
  exact mk_is ok m
theorem nd_frz {X : Cx} {pins : List (Addr × Obj)} {σ : L2.St} {H : Hp} {s : Shared} {d : Addr} {o : Obj} {xs : List Ent} (I : Inv X pins σ H s) (h : H d = some (.frz o (NdO X.prog X.w d xs))) :
    (d == sysModules) = false ∧ s.heap.get? d = some o ∧ o.ExactDict ∧ ∃ (es : Array DictEntry) (ep : Nat), o.data = .dict es ep ∧ es.size = xs.length ∧ ∀ (i : Nat) (x : Ent), xs[i]? = some x → ∃ en : DictEntry, es[i]? = some en ∧ en.key = .ref x.2.1 := by
  obtain ⟨hd, ⟨hs, z, o', es, ep, ho, hx, hdt, he, _⟩, _⟩ := I.hok d _ h
  rw [hd] at ho
  cases ho
  refine ⟨hs, hd, hx, es, ep, hdt, size_of_entries he, fun i x e => ?_⟩
  have q := entry_at he i
  rw [e] at q
  exact ⟨_, q, rfl⟩
/-! ### data -/
section
variable {α : Type}
/-- the entries xs tell the pairs l -/
def EntD (r : Rel α) (K : Hp) (xs : List Ent) (l : List (Sq × α)) : Prop := Paired (fun (x : Ent) (kv : Sq × α) => x.1 = nk kv.1 ∧ Mk K x.2.1 kv.1 ∧ ∃ v, RelV v x.2.2 ∧ r.r K v kv.2) xs l
theorem Mk.mono {K K' : Hp} {b : Addr} {k : Sq} (l : Le K K') (h : Mk K b k) : Mk K' b k := by
  obtain ⟨c, h1, h2⟩ := h
  exact ⟨c, co_tup.mp (l b _ (co_tup.mpr h1)), co_tup.mp (l c _ (co_tup.mpr h2))⟩
theorem EntD.mono {r : Rel α} {K K' : Hp} {xs : List Ent} {l : List (Sq × α)} (le : Le K K') (h : EntD r K xs l) : EntD r K' xs l := Paired.imp (fun _ _ ⟨a, b, v, c, d⟩ => ⟨a, b.mono le, v, c, r.mono le d⟩) h
theorem EntD.ent {r : Rel α} {K : Hp} : ∀ {xs : List Ent} {l : List (Sq × α)}, EntD r K xs l → ∀ x ∈ xs, ∃ k, x.1 = nk k ∧ Mk K x.2.1 k
  | _, _, .nil, x, hx => nomatch hx
  | _, _, .cons h t, x, hx => by
    rcases List.mem_cons.mp hx with e | hx
    · rw [e]; exact ⟨_, h.1, h.2.1⟩
    · exact EntD.ent t x hx
theorem EntD.get {r : Rel α} {K : Hp} {k : Sq} : ∀ {xs : List Ent} {l : List (Sq × α)}, EntD r K xs l → (dget l k = none ∧ atKey xs (nk k) = none) ∨ ∃ a p v, dget l k = some a ∧ atKey xs (nk k) = some p ∧ RelV v p.2 ∧ r.r K v a
  | _, _, .nil => .inl ⟨rfl, rfl⟩
  | _, _, .cons (a := x) (b := kv) (l₁ := l1) (l₂ := l2) h t => by
    by_cases e : kv.1 = k
    · obtain ⟨h1, h2, v, h3, h4⟩ := h
      exact .inr ⟨kv.2, x.2, v, by simp [dget, e], by simp [atKey, h1, e], h3, h4⟩
    · have e2 : ¬ x.1 = nk k := fun z => e (nk_inj _ _ (h.1.symm.trans z))
      rw [show atKey (x :: l1) (nk k) = atKey l1 (nk k) from by simp [atKey, e2], show dget (kv :: l2) k = dget l2 k from by simp [dget, e]]
      exact EntD.get t
theorem EntD.any {r : Rel α} {K : Hp} {k : Sq} {xs : List Ent} {l : List (Sq × α)} (h : EntD r K xs l) : (l.any fun kv => decide (kv.1 = k)) = (atKey xs (nk k)).isSome := by
  have : (l.any fun kv => decide (kv.1 = k)) = (dget l k).isSome := by
    unfold dget
    rw [Option.isSome_map, Bool.eq_iff_iff, List.any_eq_true, List.find?_isSome]
  rw [this]
  rcases h.get (k := k) with ⟨h1, h2⟩ | ⟨a, p, v, h1, h2, _⟩ <;> rw [h1, h2] <;> rfl
theorem EntD.repl {r : Rel α} {K : Hp} {k : Sq} {u : Value} {v : V} {a : α} (hu : RelV v u) (hv : r.r K v a) : ∀ {xs : List Ent} {l : List (Sq × α)}, EntD r K xs l → EntD r K (xs.map (putAt (nk k) u)) (l.map fun kv => if kv.1 = k then (kv.1, a) else kv)
  | _, _, .nil => .nil
  | _, _, .cons (a := x) (b := kv) h t => by
    refine .cons ?_ (EntD.repl hu hv t)
    obtain ⟨h1, h2, h3⟩ := h
    unfold putAt
    dsimp only
    by_cases e : kv.1 = k
    · have e2 : x.1 = nk k := by rw [h1, e]
      rw [if_pos e, if_pos e2]
      exact ⟨h1, h2, v, hu, hv⟩
    · have e2 : ¬ x.1 = nk k := fun z => e (nk_inj _ _ (h1.symm.trans z))
      rw [if_neg e, if_neg e2]
      exact ⟨h1, h2, h3⟩
theorem EntD.put {r : Rel α} {K : Hp} {k : Sq} {b : Addr} {u : Value} {v : V} {a : α} {xs : List Ent} {l : List (Sq × α)} (h : EntD r K xs l) (hb : Mk K b k) (hu : RelV v u) (hv : r.r K v a) : EntD r K (storedH xs (nk k) b u) (dput l k a) := by
  unfold storedH dput
  rw [h.any]
  split
  · exact h.repl hu hv
  · exact paired_snoc h ⟨rfl, hb, v, hu, hv⟩
theorem storedH_len (xs : List Ent) (k : NestedKey) (b : Addr) (u : Value) : (storedH xs k b u).length ≤ xs.length + 1 := by
  unfold storedH
  split <;> simp
def rDN (P : Program) (w : World) (r : Rel α) : Rel (List (Sq × α)) := ⟨fun K v l => ∃ p xs, v = .ref p ∧ co K p = some (NdO P w p xs) ∧ EntD r K xs l, fun le ⟨p, xs, e, h, q⟩ => ⟨p, xs, e, le p _ h, q.mono le⟩⟩
def fillDN (P : Program) (w : World) (D : Addr) (r : Rel α) : Fill (Sq × α) where
  o0 := NdO P w D []
  Obj := fun K o ys => ∃ xs, o = NdO P w D xs ∧ EntD r K xs (dputs [] ys)
  mono := fun l ⟨vs, e, h⟩ => ⟨vs, e, h.mono l⟩
  nt := fun ⟨vs, e, _⟩ => by rw [e]; rfl
  fz := fun ⟨vs, e, _⟩ ob u z => by rw [e] at z; cases z
  nil := fun _ => ⟨[], rfl, .nil⟩
end
theorem nd_empty {P : Program} {w : World} {H : Hp} (h : Heap) (hb : sysModules < h.objs.size) : ObjOk P w H (h.push { cls := .type "dict", data := .dict #[] }) h.objs.size (NdO P w h.objs.size []) := by
  obtain ⟨_, q, _, _, o, es, ep, h1, h2, h3, h4, h5⟩ := dt_empty (P := P) (w := w) (H := H) h hb
  refine nd_ok ⟨q, Nat.zero_le _, _, #[], 0, Heap.get?_push_size _ rfl, ?_, rfl, rfl, List.nodup_nil⟩
  rw [Heap.get?_push_size _ rfl] at h1
  cases h1
  exact h2
theorem rSq_mk {K H : Hp} {v : V} {k : Sq} {F : PySem.W.Frag} (l : Le K H) (h : (rSq F).r K v k) : ∃ b, v = .ref b ∧ Mk H b k ∧ Mk K b k := by
  obtain ⟨p, c, e, h1, h2⟩ := h
  exact ⟨p, e, ⟨c, co_tup.mp (l p _ h1), co_tup.mp (l c _ h2)⟩, ⟨c, co_tup.mp h1, co_tup.mp h2⟩⟩
/-! ### steps -/
theorem nu {A : Around} (hu : A.units + 64 < cLine) {P : Program} {w : World} : (nestedKind P w).room A.in1 := by
  show A.units + 1 + 8 < cLine
  omega
theorem nu0 {A : Around} (hu : A.units + 64 < cLine) {P : Program} {w : World} : (nestedKind P w).room A := by
  show A.units + 8 < cLine
  omega
/-- at d a dict with the entries xs, at b the key k -/
def NHas (X : Cx) (H : Hp) (d : Addr) (xs : List Ent) (b : Addr) (k : Sq) : Prop := Rd H d (NdO X.prog X.w d xs) ∧ (∀ x ∈ xs, ∃ k, x.1 = nk k ∧ Mk H x.2.1 k) ∧ Mk H b k
section
variable {X : Cx} {o i value : Expr} {pos pos' apos cpos : Pos} {td ty tv : TE}
def tNGet (X : Cx) (td ty : TE) : TE := fun σ H Q => td σ H fun x H1 => ty σ H1 fun y H2 => ∃ d b xs k p v, x = .ref d ∧ y = .ref b ∧ NHas X H2 d xs b k ∧ atKey xs (nk k) = some p ∧ RelV v p.2 ∧ Q v H2
theorem nd_type {pins : List (Addr × Obj)} {σ : L2.St} {H : Hp} {s : Shared} {d : Addr} {xs : List Ent} (I : Inv X pins σ H s) (e : Rd H d (NdO X.prog X.w d xs)) : s.TypeIs (.ref d) "dict" ∧ ∀ b, Value.ref d = .ref b → ∃ ob, s.heap.get? b = some ob ∧ ob.dict = none := by
  obtain ⟨⟨a, b, o, es, ep, c, r1, _⟩, _⟩ := (show ObjOk X.prog X.w H s.heap d (NdO X.prog X.w d xs) from rd_of I.hok e)
  refine ⟨⟨o, c, r1.1⟩, fun z q => ?_⟩
  cases q
  exact ⟨o, c, r1.2.1⟩
theorem pe_nget (hu : X.A.units + 64 < cLine) (ho : PE X o td) (hi : PE X i ty) (hs : NoSl i) : PE X (.Subscript o i pos) (tNGet X td ty) := by
  refine ⟨fun pins s σ H Q I h => ?_⟩
  refine subD_of PySem.F.slot_dict_getitem.lookup hs (thn (ho.run pins s σ H _ I h) fun u s1 ⟨x, H1, I1, rx, q1⟩ => thn (hi.run pins s1 σ H1 _ I1 q1) fun iv s2 ⟨y, H2, I2, ry, d, b, xs, k, p, v, ex, ey, nh, ha, rv, q2⟩ => ?_)
  subst ex; subst ey
  obtain rfl : u = Value.ref d := rx
  obtain rfl : iv = Value.ref b := ry
  obtain ⟨g1, g2, g3⟩ := nh
  obtain ⟨_, _, dd⟩ := nd_of I2.hok g1 g2
  exact ⟨(nd_type I2 g1).1, wpAny_getItem_heap (nu hu) (mk_is I2.hok g3) dd ha ⟨v, H2, I2.tok _, rv, q2⟩⟩
def tNIn (X : Cx) (ty td : TE) (neg : Bool) : TE := fun σ H Q => ty σ H fun y H1 => td σ H1 fun x H2 => ∃ d b xs k, x = .ref d ∧ y = .ref b ∧ NHas X H2 d xs b k ∧ Q (.bl (neg != (atKey xs (nk k)).isSome)) H2
theorem pc_nin (hu : X.A.units + 64 < cLine) (hi : PE X i ty) (ho : PE X o td) : PC X .In i o (tNIn X ty td false) := by
  refine ⟨fun pins s σ H Q I h => ?_⟩
  refine thn (hi.run pins s σ H _ I h) fun iv s1 ⟨y, H1, I1, ry, q1⟩ => thn (ho.run pins s1 σ H1 _ I1 q1) fun u s2 ⟨x, H2, I2, rx, d, b, xs, k, ex, ey, nh, q2⟩ => ?_
  subst ex; subst ey
  obtain rfl : u = Value.ref d := rx
  obtain rfl : iv = Value.ref b := ry
  obtain ⟨g1, g2, g3⟩ := nh
  obtain ⟨hd, _, dd⟩ := nd_of I2.hok g1 g2
  exact wpAny_in_heap (nu hu) (mk_is I2.hok g3) hd dd ⟨.bl (atKey xs (nk k)).isSome, H2, I2.tok _, rfl, by simpa using q2⟩
def tNGet1 (X : Cx) (td ty : TE) : TE := fun σ H Q => td σ H fun x H1 => ∃ d xs, x = .ref d ∧ Rd H1 d (NdO X.prog X.w d xs) ∧ ty σ H1 fun y H2 => ∃ b k v, y = .ref b ∧ NHas X H2 d xs b k ∧ RelV v (((atKey xs (nk k)).map (·.2)).getD .none) ∧ Q v H2
theorem pe_nget1 (hu : X.A.units + 64 < cLine) (ho : PE X o td) (he : PE X i ty) (m : M1 X o "get" apos i cpos) : PE X (.Call (.Attribute o "get" apos) [i] [] cpos) (tNGet1 X td ty) := by
  refine ⟨fun pins s σ H Q I h => ?_⟩
  refine wpAny_Call_method m.base m.few m.line PySem.F.plainAttrs_dict PySem.F.slot_dict_get PySem.F.type_dict_get (thn (ho.run pins s σ H _ I h) fun u s1 ⟨x, H1, I1, rx, d, xs, ex, g1, q1⟩ => ?_)
  subst ex
  obtain rfl : u = Value.ref d := rx
  obtain ⟨t1, t2⟩ := nd_type I1 g1
  refine ⟨t1, t2, ?_⟩
  rw [m.trees]
  refine Calls.callWith_builtin rfl (Calls.evalArgs_plain (Calls.spliced_cons (thn (he.run pins s1 σ H1 _ I1 q1) fun iv s2 ⟨y, H2, I2, ry, b, k, v, ey, nh, rv, q2⟩ => Calls.spliced_nil ?_)))
  subst ey
  obtain rfl : iv = Value.ref b := ry
  obtain ⟨g1, g2, g3⟩ := nh
  obtain ⟨hd, _, dd⟩ := nd_of I2.hok g1 g2
  exact call_meetsIn PySem.F.slot_dict_get dd.typeIs PySem.F.entry_dict_get (PySem.F.args_dict_get_2 _ _) (meetsH_dict_get (nestedKind X.prog X.w) d b hd) ⟨nu hu, nk k, xs, mk_is I2.hok g3, dd, ⟨v, H2, I2.tok _, rv, q2⟩⟩
/-- a new entry or another value -/
theorem nd_put {pins : List (Addr × Obj)} {σ : L2.St} {H : Hp} {s : Shared} {d b : Addr} {xs : List Ent} {k : Sq} {u : Value} {h' : Heap} {t : Nat} (I : Inv X pins σ H s) (e : H d = some (NdO X.prog X.w d xs)) (hz : xs.length < sizeLine) (dd : h'.DictOfH (nestedKind X.prog X.w) d (storedH xs (nk k) b u)) (hs : Heap.SameBut d s.heap h') :
    Inv X pins σ (upd H d (NdO X.prog X.w d (storedH xs (nk k) b u))) { s with heap := h', toks := t } := by
  obtain ⟨⟨a, _⟩, _⟩ := (show ObjOk X.prog X.w H s.heap d (NdO X.prog X.w d xs) from I.hok d _ e)
  obtain ⟨q, es, ep, hq, h2, h3, h4, _, h5⟩ := dd
  have hl : (storedH xs (nk k) b u).length ≤ sizeLine := by have := storedH_len xs (nk k) b u; omega
  exact d_write I (by rw [e]; exact True.intro) hs ⟨q, hq⟩ (nd_ok ⟨a, hl, q, es, ep, hq, h2, h3, h4, h5⟩)
def sNPut (X : Cx) (td ty tv : TE) : TS := fun D σ H => tv σ H fun v H1 => td σ H1 fun x H2 => ty σ H2 fun y H3 => ∃ d b xs k, x = .ref d ∧ y = .ref b ∧ H3 d = some (NdO X.prog X.w d xs) ∧ (∀ x ∈ xs, ∃ k, x.1 = nk k ∧ Mk H3 x.2.1 k) ∧ Mk H3 b k ∧ xs.length < sizeLine ∧
  ∀ u, RelV v u → D.nx σ (upd H3 d (NdO X.prog X.w d (storedH xs (nk k) b u)))
theorem ps_nput (hu : X.A.units + 64 < cLine) (ho : PE X o td) (hi : PE X i ty) (hv : PE X value tv) (hs : swapsWith value (some (.Subscript o i pos')) pos.line X.env = pure false) : PS X (.Assign [.Subscript o i pos'] value pos) (sNPut X td ty tv) := by
  refine ⟨fun pins s σ H D I h => ?_⟩
  refine wpAny_Assign_Subscript (thn (hv.run pins s σ H _ I h) fun r s1 ⟨v, H1, I1, rv, q1⟩ => thn (ho.run pins s1 σ H1 _ I1 q1) fun u s2 ⟨x, H2, I2, rx, q2⟩ => thn (hi.run pins s2 σ H2 _ I2 q2) fun iv s3 ⟨y, H3, I3, ry, d, b, xs, k, ex, ey, hd, g2, g3, hz, q3⟩ => ?_) hs
  subst ex; subst ey
  obtain rfl : u = Value.ref d := rx
  obtain rfl : iv = Value.ref b := ry
  obtain ⟨_, _, dd⟩ := nd_of I3.hok (.inl hd) g2
  exact wpAny_setItem_heap (hsz := Nat.le_of_lt hz) (nu hu) (mk_is I3.hok g3) dd fun h' dd' hs => ⟨σ, _, nd_put I3 hd hz dd' hs, q3 r rv⟩
theorem pe_dnewN : PE X (.Dict [] [] pos) (fun _ H Q => ∀ p, H p = none → Q (.ref p) (upd H p (NdO X.prog X.w p []))) := ⟨fun pins s σ H Q I h =>
  wpAny_Dict_empty ⟨.ref s.heap.objs.size, _, I.laid (a := s.heap.objs.size) (o := NdO X.prog X.w s.heap.objs.size []) (t' := s.toks) (fun _ _ q => Heap.get?_push_of_some _ q) (Nat.le_refl _) (nd_empty s.heap I.big), rfl, h _ (I.hok.fresh (Nat.le_refl _))⟩⟩
end
/-- the keys of the locked dict at d -/
def ItN (P : Program) (w : World) (d : Addr) (o : Obj) (xs : List Ent) : It :=
  ⟨fun i H => H d = some (.frz o (NdO P w d xs)) ∧ i < xs.length, fun i H x H' => H' = H ∧ ∃ e, xs[i]? = some e ∧ x = .ref e.2.1, fun i H => H d = some (.frz o (NdO P w d xs)) ∧ xs.length ≤ i⟩
theorem turn_N {P : Program} {w : World} {F : PySem.W.Frag} {tg : Expr} {d : Addr} {o : Obj} {xs : List Ent} {es : Array DictEntry} {ep : Nat} (it : Addr) (hod : o.data = .dict es ep) : Turn P w F tg (ItN P w d o xs) [it] it (fun i h => h.IsKeyIter it d i xs.length ep) where
  mem := List.mem_singleton.mpr rfl
  obj := fun i h st b hb => by
    rw [List.mem_singleton.mp hb]
    obtain ⟨oi, e, c, dd⟩ := st
    exact ⟨oi, e, fun v z => by rw [dd] at z; cases z⟩
  keep := fun i h h' st k => st.at fun oi e => k it (List.mem_singleton.mpr rfl) oi e
  item := by
    intro X hP hw hK hc i pins s σ H E I hf st hg
    subst hP hw hK
    obtain ⟨hd, hi⟩ := hg
    obtain ⟨f0, f1, f2, f3, f4, f5⟩ := hf it (List.mem_singleton.mpr rfl)
    obtain ⟨hs, hgd, hx, es', ep', hdt, hsz, ent⟩ := nd_frz I hd
    obtain ⟨rfl, rfl⟩ := dict_ep hod hdt
    obtain ⟨en, hen, hkey⟩ := ent i xs[i] (List.getElem?_eq_getElem hi)
    refine next_key_item st hgd hdt hsz hen fun h' st' sb => ?_
    have I1 : Inv X pins σ H { s with heap := h' } := I.turned (t' := s.toks) (fun b ob hb e => (sb.2 b hb).trans e) f0 f1 f3 f4 f5
    obtain ⟨oi, e, c, dd⟩ := id st'
    exact ⟨en.key, rfl, go_of (s := { s with heap := h' }) e c dd (by decide) ⟨.ref xs[i].2.1, H, I1, hkey, ⟨rfl, xs[i], List.getElem?_eq_getElem hi, rfl⟩, st', fun b hb => (hf b hb).1⟩⟩
  done := by
    intro X hP hw hK hc i pins s σ H E I hf st hg
    subst hP hw hK
    obtain ⟨hd, hi⟩ := hg
    obtain ⟨f0, f1, f2, f3, f4, f5⟩ := hf it (List.mem_singleton.mpr rfl)
    obtain ⟨hs, hgd, hx, es', ep', hdt, hsz, ent⟩ := nd_frz I hd
    obtain ⟨rfl, rfl⟩ := dict_ep hod hdt
    exact next_key_end (I.ok.hd hc) st hgd hdt hsz hi fun h' eb => ⟨rfl, I.turned (t' := s.toks) (fun b ob hb e => eb b ob hb e) f0 f1 f3 f4 f5⟩
  self := fun A i s Q E st h => by
    refine wpAny_pyIter_slot st.typeIs PySem.F.slot_dict_keyiterator_iter (wpAny_call_entry PySem.F.slot_dict_keyiterator_iter st.typeIs PySem.F.entry_dict_keyiterator_iter ?_ (PySem.F.args_dict_keyiterator_iter_1 _))
    show wpAny _ _ (ret (.ref it)) _ _ s
    exact wpAny_pure ⟨_, rfl, "dict_keyiterator", _, st.typeIs, PySem.F.slot_dict_keyiterator_next.lookup, h⟩
theorem pi_keysN {X : Cx} {tg e : Expr} {td : TE} (he : PE X e td) : PI X tg e (fun σ H R => td σ H fun x H1 => ∃ d o xs, x = .ref d ∧ H1 d = some (.frz o (NdO X.prog X.w d xs)) ∧ R (ItN X.prog X.w d o xs) H1) := by
  refine ⟨fun pins s σ H R I h => ?_⟩
  refine thn (he.run pins s σ H _ I h) fun u s1 ⟨x, H1, I1, rx, d, o, xs, ex, hd, q⟩ => ?_
  subst ex
  obtain rfl : u = Value.ref d := rx
  obtain ⟨hs, hgd, hx, es, ep, hdt, hsz, ent⟩ := nd_frz I1 hd
  refine iter_keys hs hgd hx hdt (pi_one (tk := s1.toks) I1 _ (turn_N _ hdt) ⟨_, Heap.get?_push_size _ rfl, rfl, ?_⟩ q)
  rw [hsz] <;> rfl
end SN
end TQM

section TQN
set_option Elab.async false
set_option linter.all false
set_option maxRecDepth 100000
set_option maxHeartbeats 4000017
/-! QN: dicts of squares by data. -/
namespace SN
open PySem PySem.Spec PyProof.Rows L2
/-- a value or None -/
def rOpt {α : Type} (r : Rel α) : Rel (Option α) := ⟨fun H v a => (v = .non ∧ a = none) ∨ ∃ x, a = some x ∧ r.r H v x, fun le h => h.imp id fun ⟨x, e, h⟩ => ⟨x, e, r.mono le h⟩⟩
section
variable {X : Cx} {α β γ δ : Type} {σ : L2.St} {K H K' H' : Hp} {r : Rel α} {a : α}
theorem rDN_has {F : PySem.W.Frag} {v u : V} {l : List (Sq × α)} {k : Sq} (le : Le K H) (h : (rDN X.prog X.w r).r K v l) (hu : (rSq F).r K u k) : ∃ d b xs, v = .ref d ∧ u = .ref b ∧ NHas X H d xs b k ∧ EntD r K xs l := by
  obtain ⟨d, xs, e, h1, h2⟩ := h
  obtain ⟨b, e2, m, _⟩ := rSq_mk le hu
  exact ⟨d, b, xs, e, e2, ⟨co_ext.mp (le d _ h1), fun x hx => (h2.ent x hx).imp fun k z => ⟨z.1, z.2.mono le⟩, m⟩, h2⟩
section
variable {o i value : Expr} {pos pos' apos cpos : Pos} {l : List (Sq × α)} {k : Sq}
theorem ev_dgetN (hu : X.A.units + 64 < cLine) (ho : EV X o σ K (rDN X.prog X.w r) l) (hi : EV X i σ K (rSq X.K) k) (hg : dget l k = some a) (hs : NoSl i := by exact fun _ _ => rfl) : EV X (.Subscript o i pos) σ K r a := fun H le Q q =>
  PE.to (pe_nget hu (peW o) (peW i) hs) (ho H le _ fun v K1 H1 n1 hv => hi.mono n1.le H1 n1.in_ _ fun u K2 H2 n2 hk => by
    obtain ⟨d, b, xs, e1, e2, nh, en⟩ := rDN_has (F := X.K) n2.in_ ((rDN X.prog X.w r).mono n2.le hv) hk
    rcases en.get (k := k) with ⟨g1, _⟩ | ⟨a', p, z, g1, g2, g3, g4⟩
    · rw [hg] at g1; cases g1
    · rw [hg] at g1; cases g1
      exact ⟨d, b, xs, k, p, z, e1, e2, nh, g2, g3, q z K2 H2 (n1.trans n2) g4⟩)
theorem et_inN (hu : X.A.units + 64 < cLine) (hi : EV X i σ K (rSq X.K) k) (ho : EV X o σ K (rDN X.prog X.w r) l) (hm : behindInMarks .In o = false := by rfl) : ET X (.Compare i [.In] [o] pos) σ K (dget l k).isSome := fun H le Q q =>
  PT.to (pt_cmp (pc_nin hu (peW i) (peW o)) hm) (hi H le _ fun u K1 H1 n1 hk => ho.mono n1.le H1 n1.in_ _ fun v K2 H2 n2 hv => by
    obtain ⟨d, b, xs, e1, e2, nh, en⟩ := rDN_has (F := X.K) n2.in_ hv ((rSq X.K).mono n2.le hk)
    have z := q H2 (n1.trans n2).same
    rcases en.get (k := k) with ⟨g1, g2⟩ | ⟨a', p, _, g1, g2, _⟩ <;> rw [g1] at z <;> exact ⟨d, b, xs, k, e1, e2, nh, _, rfl, by rw [g2]; exact z⟩)
theorem ev_getN (hu : X.A.units + 64 < cLine) (ho : EV X o σ K (rDN X.prog X.w r) l) (hi : EV X i σ K (rSq X.K) k) (m : M1 X o "get" apos i cpos) : EV X (.Call (.Attribute o "get" apos) [i] [] cpos) σ K (rOpt r) (dget l k) := fun H le Q q =>
  PE.to (pe_nget1 hu (peW o) (peW i) m) (ho H le _ fun v K1 H1 n1 ⟨d, xs, e1, h1, h2⟩ => ⟨d, xs, e1, co_ext.mp (n1.in_ d _ h1), hi.mono n1.le H1 n1.in_ _ fun u K2 H2 n2 hk => by
    obtain ⟨b, e2, m, _⟩ := rSq_mk n2.in_ hk
    have l2 := n2.le.trans n2.in_
    have nh : NHas X H2 d xs b k := ⟨co_ext.mp (l2 d _ h1), fun x hx => (h2.ent x hx).imp fun k z => ⟨z.1, z.2.mono l2⟩, m⟩
    rcases h2.get (k := k) with ⟨g1, g2⟩ | ⟨a', p, z, g1, g2, g3, g4⟩
    · exact ⟨b, k, .non, e2, nh, by rw [g2]; rfl, q _ K2 H2 (n1.trans n2) (.inl ⟨rfl, g1⟩)⟩
    · exact ⟨b, k, z, e2, nh, by rw [g2]; exact g3, q _ K2 H2 (n1.trans n2) (.inr ⟨a', g1, r.mono n2.le g4⟩)⟩⟩)
theorem et_neOS {x y : Expr} {p : Option Str} {z : Str} (hx : EV X x σ K (rOpt rStr) p) (hy : EV X y σ K rStr z) : ET X (.Compare x [.NotEq] [y] pos) σ K (!decide (p = some z)) := et_cmp op_ne (nomark _) hx hy fun K1 H1 u v Q _ l hu hv q => by
  obtain rfl : v = .str z := hv
  rcases hu with ⟨rfl, rfl⟩ | ⟨w, rfl, hw⟩
  · exact ⟨rfl, q _ K1 H1 (.refl l) (by show V.bl _ = V.bl _; congr 1)⟩
  · obtain rfl : u = .str w := hw
    exact ⟨rfl, q _ K1 H1 (.refl l) (by show V.bl _ = V.bl _; congr 2; simp)⟩
/-- the keys -/
theorem es_keysN {tg e : Expr} {p : Addr} {xs : List (Sq × α)} {F : PySem.W.Frag} (h : EV X e σ K rVal (.ref p)) (hd : (rDN X.prog X.w r).r K (.ref p) xs) : ES X tg e σ K [p] (rSq F) (xs.map (·.1)) := fun H l hL R q =>
  PI.to (pi_keysN (peW e)) (h H l _ fun v K1 H1 n hv => by
    obtain ⟨p', es, e1, h1, h2⟩ := hd
    cases e1
    obtain ⟨o, u, hu⟩ := hL p (List.mem_singleton.mpr rfl)
    have hu1 := n.same p _ hu
    have hc : co H1 p = some (NdO X.prog X.w p es) := n.in_ p _ (n.le p _ h1)
    have hu2 : H1 p = some (.frz o (NdO X.prog X.w p es)) := by
      rcases co_ext.mp hc with z | ⟨o', z⟩
      · rw [z] at hu1; cases hu1
      · rw [z] at hu1; cases hu1; exact z
    have hl : es.length = xs.length := paired_len h2
    refine ⟨p, o, es, hv, hu2, q _ K1 H1 n ⟨fun H' => H' p = some (.frz o (NdO X.prog X.w p es)), fun i H' x H'' => H'' = H' ∧ ∃ e, es[i]? = some e ∧ x = .ref e.2.1, ⟨fun i _ hi q => ⟨q, ?_⟩, fun _ q => ⟨q, ?_⟩, fun _ _ _ _ _ _ y => y⟩, fun H' _ k => k p o _ hu2, fun i H' x H'' hi l' k y => ?_⟩⟩
    · rw [List.length_map] at hi; omega
    · rw [List.length_map]; omega
    · obtain ⟨e2, en, e3, e4⟩ := y
      subst e2
      obtain ⟨ka, g1, g2, g3, _⟩ := paired_get' h2 e3
      obtain ⟨c, m1, m2⟩ := g3.mono n.le
      exact ⟨K1, ka.1, by rw [List.getElem?_map, g1]; rfl, .refl l', en.2.1, c, e4, co_tup.mpr m1, co_tup.mpr m2⟩)
/-! ### filling -/
theorem sd_dputN {p : Addr} {Sg : L2.St → Prop} (hu : X.A.units + 64 < cLine) (hSg : Sg σ) (hv : EV X value σ K r a) (ho : EV X o σ K rVal (.ref p)) (hi : EV X i σ K (rSq X.K) k)
    (hs : swapsWith value (some (.Subscript o i pos')) pos.line X.env = pure false := by rfl) : SD1 X (.Assign [.Subscript o i pos'] value pos) (fillDN X.prog X.w p r) p Sg σ K [(k, a)] := fun K1 H ob ys le l1 hd obj hz D q => by
  obtain ⟨xs, e, hp⟩ := obj
  subst e
  refine PS.to (ps_nput hu (peW o) (peW i) (peW value) hs) (hv.mono le H (era_le l1) _ fun v K2 H2 n2 hv => ho.mono (le.trans n2.le) H2 n2.in_ _ fun w K3 H3 n3 hw => hi.mono (le.trans (n2.trans n3).le) H3 n3.in_ _ fun u K4 H4 n4 hk => ?_)
  have n := (n2.trans n3).trans n4
  have hK := le_era_none l1
  obtain rfl : w = .ref p := hw
  obtain ⟨b, e2, m, m2⟩ := rSq_mk n4.in_ hk
  have hd4 := n.same p _ hd
  have hl : xs.length < sizeLine := szline (paired_len hp) hz
  refine ⟨p, b, xs, k, rfl, e2, hd4, fun x hx => (hp.ent x hx).imp fun k z => ⟨z.1, z.2.mono (n.le.trans n.in_)⟩, m, hl, fun u' ru => ?_⟩
  refine q σ K4 _ (NdO X.prog X.w p (storedH xs (nk k) b u')) hSg (n.era hK hd rfl).updE upd_same ⟨_, rfl, ?_⟩
  rw [dputs_snoc]
  exact (hp.mono n.le).put m2 ru (r.mono (n3.trans n4).le hv)
theorem fin_dN {K1 : Hp} {p : Addr} {o3 : HO} {ys : List (Sq × α)} {P : Program} {w : World} (h : (fillDN P w p r).Obj K1 o3 ys) (hk : K1 p = none) : (rDN P w r).r (upd K1 p o3) (.ref p) (dputs [] ys) := by
  obtain ⟨xs, e, hp⟩ := h
  subst e
  exact ⟨p, xs, rfl, co_ext.mpr (.inl upd_same), hp.mono (le_new' hk)⟩
theorem s_newN {x : Str} {i : Nat} {p2 pos pos' : Pos} {D : Ends} (hN : X.N.Nodup) (hi : X.N[i]? = some x) (hx : Loc X.env.scope x) (k : ∀ p, H p = none → D.nx (σ.set i (some (.ref p))) (upd H p (NdO X.prog X.w p [])))
    (hs : swapsWith (.Dict [] [] p2) (some (.Name x pos')) pos.line X.env = pure false := by rfl) (hf : X.fn x = true ∨ X.env.scope.names.lookup x = some .local := by first | exact .inl rfl | exact .inr rfl) : wS X (.Assign [.Name x pos'] (.Dict [] [] p2) pos) D σ H :=
  PS.to (ps_set hN hi hx pe_dnewN hs hf) k
end
theorem ev_newN {pos : Pos} : EV X (.Dict [] [] pos) σ K (rDN X.prog X.w r) [] := fun H le Q q => PE.to pe_dnewN fun p hp => q _ _ _ (.new le hp) ⟨p, [], rfl, co_ext.mpr (.inl upd_same), .nil⟩
theorem ev_newC {pos : Pos} : EV X (.Dict [] [] pos) σ K (rDC r) [] := fun H le Q q => PE.to pe_dnewT fun p hp => q _ _ _ (.new le hp) ⟨p, [], rfl, co_dT.mpr (.inl upd_same), .nil⟩
theorem na_dN : NewAcc X newDict (fun D => NdO X.prog X.w D []) := ⟨fun pins s σ H Q E I h => by
  refine wpAny_newObj_type (h s.heap.objs.size _ (I.hok.fresh (Nat.le_refl _)) (Nat.le_refl _) ?_ fun b o e => Heap.get?_push_of_some _ e)
  exact I.laid (t' := s.toks) (fun b o e => Heap.get?_push_of_some _ e) (Nat.le_refl _) (nd_empty s.heap I.big)⟩
theorem ak_dN {kx vx : Expr} {tk tv : TE} {D : Addr} (hu : X.A.units + 64 < cLine) (hxe : X.xe = fun _ _ => False) (hk : PE X kx tk) (he : PE X vx tv) :
    PAk X (dcAct kx vx D X.env) [] (fun σ H N => tk σ H fun y H4 => tv σ H4 fun z H5 => ∃ xs k b, y = .ref b ∧ Mk H5 b k ∧ (∀ x ∈ xs, ∃ k, x.1 = nk k ∧ Mk H5 x.2.1 k) ∧ H5 D = some (NdO X.prog X.w D xs) ∧ xs.length < sizeLine ∧ ∀ u, RelV z u → N (upd H5 D (NdO X.prog X.w D (storedH xs (nk k) b u)))) := by
  refine ⟨fun pins s σ H N I h k Q E hk' => ?_⟩
  unfold dcAct
  refine wpAny_bind (wpAny_bind (thn0 hxe (hk.run pins s σ H _ I h) fun x s1 ⟨y, H1, I1, r1, q1⟩ => ?_))
  refine wpAny_bind (wpAny_holding (thn0 hxe (he.run pins s1 σ H1 _ I1 q1) fun x2 s2 ⟨z, H2, I2, r2, xs, kk, b, e, m, g2, hD, hz, n⟩ => ?_))
  subst e
  cases (show x = Value.ref b from r1)
  obtain ⟨_, _, dd⟩ := nd_of I2.hok (.inl hD) g2
  refine wpAny_bind (wpAny_standAt (wpAny_holding (wpAny_dictSet_heap (hsz := Nat.le_of_lt hz) (nu0 hu) (mk_is I2.hok m) dd fun h' dd' hs => ?_)))
  exact hk' _ ⟨_, nd_put I2 hD hz dd' hs, n x2 r2⟩
theorem akd_dN {kx vx : Expr} {rr : Rel β} {k : Sq} {b : β} {D : Addr} (hu : X.A.units + 64 < cLine) (hxe : X.xe = fun _ _ => False) (hk : EV X kx σ K (rSq X.K) k) (hv : EV X vx σ K rr b) : AkD X (dcAct kx vx D X.env) [] (fillDN X.prog X.w D rr) D σ K [(k, b)] := fun K1 H o ys l l1 hd ob hz N q => by
  refine (ak_dN hu hxe (peW kx) (peW vx)).to (hk.mono l H (era_le l1) _ fun v K2 H2 n2 hk2 => hv.mono (l.trans n2.le) H2 n2.in_ _ fun u K3 H3 n3 hvv => ?_)
  obtain ⟨xs, e, hp⟩ := ob
  subst e
  have hK := le_era_none l1
  have n := n2.trans n3
  obtain ⟨bb, e1, m, m2⟩ := rSq_mk n3.in_ ((rSq X.K).mono n3.le hk2)
  refine ⟨xs, k, bb, e1, m, fun x hx => (hp.ent x hx).imp fun k z => ⟨z.1, z.2.mono (n.le.trans n.in_)⟩, n.same D _ hd, szline (paired_len hp) hz, fun u' ru => ?_⟩
  refine q K3 _ (NdO X.prog X.w D (storedH xs (nk k) bb u')) (n.era hK hd rfl).updE upd_same ⟨_, rfl, ?_⟩
  rw [dputs_snoc]
  exact (hp.mono n.le).put m2 ru hvv
theorem cd_dNt {tg iter kx vx : Expr} {scope : Scope} {own : List (Str × Nat)} {pos : Pos} {g : TG} {L : List Addr} {rr : Rel δ} {xs : List α} {f : α → Sq × δ} (hu : X.A.units + 64 < cLine) (hc : X.calm = true) (hN : X.N.Nodup) (hi : ES X tg iter σ K L r xs) (ok : BlkOk X.N X.env.scope scope own) (pg : ∀ s H C cl fp, PG (blkX X scope s H C cl fp) tg g) (hz : xs.length ≤ sz)
    (turn : Turn0 X scope g (own.map (·.2)) σ K r xs fun B σ2 K2 a => EV B kx σ2 K2 (rSq X.K) (f a).1 ∧ EV B vx σ2 K2 rr (f a).2) (hf : ∀ x, foldedSetIterable iter X.env x = pure x := by intro _; rfl) :
    CD X (.DictComp kx vx [⟨tg, iter, [], 0⟩] scope pos) σ K L (rDN X.prog X.w rr) (dputs [] (xs.map f)) := by
  refine cd_any (g := ⟨tg, iter, [], 0⟩) (act := fun D env => dcAct kx vx D env) (F := fun D => fillDN X.prog X.w D rr) (em := fun a => [f a]) (p := tt) (vsIn := []) hc hN rfl rfl (fun _ _ => cmp_d) (fun _ _ _ => turn_d1) na_dN (fun _ => rfl) hi ok pg (fun _ h => nomatch h) (by rw [emit_one, filter_t, List.length_map]; exact hz) ?_ ?_ hf
  · intro D i a K2 x ea l hr
    obtain ⟨σ2, h1, h2, h3⟩ := turn i a K2 x ea l hr
    exact ⟨σ2, h1, h2, fun s H0 C cl fp => ⟨rfl, fun e => akd_dN (X := blkX X scope s H0 C cl fp) hu rfl (h3 s H0 C cl fp).1 (h3 s H0 C cl fp).2⟩⟩
  · rintro K1 D o e ⟨xs', e2, hp⟩
    subst e2
    rw [emit_one, filter_t] at hp
    exact ⟨D, xs', rfl, co_ext.mpr (.inl e), hp⟩
end
end SN
end TQN

section TQU
set_option Elab.async false
set_option linter.all false
set_option maxRecDepth 100000
set_option maxHeartbeats 4000017
/-! QU: needed_indexes, simplified, points. -/
namespace SN
open PySem PySem.Spec PyProof.Rows L2
abbrev stNeeded : Stmt := top 27
abbrev stNewIx : Stmt := top 28
abbrev stSimplified : Stmt := top 29
abbrev stLow : Stmt := top 30
abbrev stHigh : Stmt := top 31
abbrev stSizes : Stmt := top 32
def sidesOf (j : Nat) : List Side := allS.filter fun s => ax s == j
theorem sidesOf_len (j : Nat) : (sidesOf j).length ≤ 6 := List.length_filter_le _ _
def need1 (cs : List (Cell × Bool)) (j : Nat) : List (Int × Bool) := (cs.map (·.1)).flatMap fun c => (sidesOf j).flatMap fun s => if (!(dget cs (nb c s)).isSome) = true then [(beside c s, true)] else []
def markTest (l : List (Sq × Str)) (j : Nat) (q : Sq) (s : Side) : Bool := !(sidesOf j).contains q.2 && !decide (dget l (nb q.1 s, q.2) = some ((dget l q).getD default))
def need2 (l : List (Sq × Str)) (j : Nat) : List (Int × Bool) := (l.map (·.1)).flatMap fun q => (sidesOf j).flatMap fun s => if markTest l j q s = true then [(beside q.1 s, true)] else []
def neededF (cs : List (Cell × Bool)) (l : List (Sq × Str)) (j : Nat) : List Int := sortZ ((dputs [] (need1 cs j ++ need2 l j)).map (·.1))
structure NeedOk (cs : List (Cell × Bool)) (l : List (Sq × Str)) (j : Nat) : Prop where
  j3 : j < 3
  c : cs.length ≤ 20000
  m : l.length ≤ 100000
  n : (dputs [] (need1 cs j ++ need2 l j)).length < 64
theorem dget_mem {κ α : Type} [DecidableEq κ] {k : κ} : ∀ {l : List (κ × α)}, (dget l k).isSome = true ↔ k ∈ l.map (·.1)
  | [] => by simp [dget]
  | x :: l => by
    by_cases e : x.1 = k
    · simp [dget, e]
    · have ih := dget_mem (k := k) (l := l)
      have e2 : dget (x :: l) k = dget l k := by simp [dget, e]
      rw [e2, ih, List.map_cons, List.mem_cons]
      exact ⟨fun h => .inr h, fun h => h.elim (fun z => absurd z.symm e) id⟩
theorem dget_getD {κ α : Type} [DecidableEq κ] [Inhabited α] {k : κ} {l : List (κ × α)} (h : k ∈ l.map (·.1)) : dget l k = some ((dget l k).getD default) := by
  have := dget_mem.mpr h
  cases e : dget l k with
  | none => rw [e] at this; cases this
  | some a => rfl
theorem if_len {α : Type} {b : Bool} {x : α} : (if b = true then [x] else []).length ≤ 1 := by cases b <;> simp
theorem flat_flat_len {α β γ : Type} (xs : List α) (ys : List β) (f : α → β → List γ) (n : Nat) (hy : ys.length ≤ n) (h : ∀ a b, (f a b).length ≤ 1) : (xs.flatMap fun a => ys.flatMap (f a)).length ≤ xs.length * n :=
  flat_len _ n xs fun a _ => Nat.le_trans (flat_len _ 1 ys fun b _ => h a b) (by omega)
theorem need1_len (cs : List (Cell × Bool)) (j : Nat) : (need1 cs j).length ≤ cs.length * 6 := by
  have := flat_flat_len (cs.map (·.1)) (sidesOf j) (fun c s => if (!(dget cs (nb c s)).isSome) = true then [(beside c s, true)] else []) 6 (sidesOf_len j) fun _ _ => if_len
  rw [List.length_map] at this
  exact this
theorem need2_len (l : List (Sq × Str)) (j : Nat) : (need2 l j).length ≤ l.length * 6 := by
  have := flat_flat_len (l.map (·.1)) (sidesOf j) (fun q s => if markTest l j q s = true then [(beside q.1 s, true)] else []) 6 (sidesOf_len j) fun _ _ => if_len
  rw [List.length_map] at this
  exact this
section
variable {X : Cx} {σ : L2.St} {K : Hp}
theorem inV_sd {s : Side} : ∀ {ss : List Side}, inV (.str (sname s)) (ss.map fun s => .str (sname s)) = ss.contains s
  | [] => rfl
  | t :: ss => by
    have ih := inV_sd (s := s) (ss := ss)
    unfold inV at ih ⊢
    rw [List.map_cons, List.any_cons, ih, List.contains_cons]
    congr 1
    rw [Bool.eq_iff_iff]
    simp only [eqV, beq_iff_eq]
    constructor
    · intro h; exact (sname_inj _ _ (by simpa using h)).symm
    · intro h; simp [h]
theorem paired_sd {K : Hp} : ∀ {vs : List V} {bs : List Side}, Paired (rSd.r K) vs bs → vs = bs.map fun s => V.str (sname s)
  | _, _, .nil => rfl
  | _, _, .cons h t => by rw [paired_sd t]; obtain rfl := h; rfl
theorem et_notinSd {x y : Expr} {pos : Pos} {s : Side} {ss : List Side} (hx : EV X x σ K rSd s) (hy : EV X y σ K (rLst X.K rSd) ss) (hm : behindInMarks .NotIn y = false := by rfl) : ET X (.Compare x [.NotIn] [y] pos) σ K (!ss.contains s) := et_cmp op_notIn_seq hm hx hy fun K1 H1 u v Q _ l hu ⟨p, vs, e, h1, h2⟩ q => by
  obtain rfl : u = .str (sname s) := hu
  subst e
  rw [paired_sd h2] at h1
  exact ⟨p, _, rfl, .inl (le_L l h1), rfl, List.all_eq_true.mpr fun z hz => by
    obtain ⟨t, _, rfl⟩ := List.mem_map.mp hz
    rfl, q _ K1 H1 (.refl l) (by show V.bl _ = V.bl _; rw [inV_sd]; rfl)⟩
end
section
variable {P : Program} {w : World} {F : PySem.W.Frag} {mg : Str → Option Value} {base : Heap}
abbrev spNeighbor : Sp := sp2 rCell rSd rCell (fun _ _ => True) nb
abbrev spBeside : Sp := sp2 rCell rSd rInt (fun _ _ => True) beside
theorem df_needed (T : TX w F mg) (D1 : Df P w F mg base 2 "neighbor" spNeighbor) (D2 : Df P w F mg base 1 "line_beside" spBeside) (G : FnF F mg "needed_indexes" stNeeded ["cells", "marks", "axis"]) :
    Df P w F mg base 3 "needed_indexes" (sp3 (rDC rBl) (rDN P w rStr) rNat (rLst F rInt) NeedOk neededF) := by
  have S : FnScope ["cells", "marks", "axis", "needed", "sides", "cell", "side", "square", "face"] ["cells", "marks", "axis"] (defScope stNeeded) := ⟨rfl, rfl, rfl, by decide +kernel, rfl, by decide +kernel, by decide +kernel⟩
  refine df_fn G S (fun vs H Q E ⟨K, v, a, u, b, w, c, e, _⟩ => by rw [e]; rfl) ?_
  rintro X _ H Q E f cdv A outer s rfl hr ⟨K, vc, cs, vm, l, va, j, rfl, le, h1, h2, h3, ok, q⟩
  have hu := hu_of hr
  have hu64 := hr.units
  obtain ⟨p1, m1, k1⟩ := T.axisOf
  obtain ⟨ps, ms, ks⟩ := T.sides
  obtain ⟨pc, kvs, e1, hc1, hc2⟩ := id h1
  obtain ⟨pm, es, e2, hm1, hm2⟩ := id h2
  subst e1; subst e2
  refine ss_cons (s_newK (i := 3) S.nd rfl (Or.inl rfl) fun p hp => ?_)
  have nE : era (upd H p (.dK [])) p = H := by rw [era_upd, era_none hp]
  have leU : Le K (upd H p (.dK [])) := le.trans (le_new' hp)
  refine ss_cons (s_cd (rr := rLst F rSd) (z := sidesOf j) (i := 4) S.nd rfl leU ?_ fun v1 K1 H1 n1 hv1 => ?_)
  · have em : ((allS.filter fun s => decide (((ax s : Nat) : Int) = (j : Int))).map fun s => s) = sidesOf j := by
      rw [List.map_id']
      unfold sidesOf
      congr 1; funext s
      rw [Bool.eq_iff_iff]; simp; exact ⟨fun h => by omega, fun h => by omega⟩
    refine em ▸ cd_l1 (own := [("side", 6)]) (p := fun s => decide (((ax s : Nat) : Int) = (j : Int))) (f := fun s => s) (xs := allS) (rr := rSd) (r := rSd) rfl S.nd (es_tup (ev_sides ms ks)) (blkOk_by (N := ["cells", "marks", "axis", "needed", "sides", "cell", "side", "square", "face"]) (sc := defScope stNeeded) (by decide +kernel)) (fun _ _ _ _ _ => pg_name (i := 6) S.nd rfl (Or.inl rfl)) (by decide) ?_
    intro i sd K2 x ea l2 hx
    exact ⟨_, gd_name, wipe_t (by decide), fun s H0 C cl fp => ⟨et_eqI (ev_ks (r := rInt) (a := ((ax sd : Nat) : Int)) m1 k1 (ev_name 6 rfl hx) fun _ => rfl) (ev_name 2 rfl h3), fun _ => ev_name 6 rfl hx⟩⟩
  · have hkp : K p = none := le.fresh hp
    have nE1 := n1.era hkp upd_same rfl
    have hd1 := n1.same p _ upd_same
    have le1 : Le K1 (era H1 p) := nE1.in_
    rw [nE] at nE1
    have b1 := need1_len cs j
    have b2 := need2_len l j
    have okc := ok.c
    have okm := ok.m
    have h1' := (rDC rBl).mono n1.le h1
    have h2' := (rDN P w rStr).mono n1.le h2
    refine ss_sd (bs := need1 cs j) (ys := []) (F := fillDI rBl) (Sg := fun σ => ∃ a b c d, σ = [some (.ref pc), some (.ref pm), some va, some (.ref p), some v1, a, b, c, d]) (sd_forL (K := K1) (passes_of rfl) rfl (pg_name (i := 5) S.nd rfl (Or.inl rfl)) ⟨_, _, _, _, rfl⟩ (.inr (.inl ⟨kvs, rfl⟩)) (n1.le pc _ hc1) (es_keysC (ev_name 0 rfl rfl) h1') ?_) le1 hd1 ((fillDI rBl).nil K1) (by simp only [List.length_nil, sz]; omega) fun σ3 K3 H3 o3 sg n3 e3 ob3 => ?_
    · rintro i c σ' K2 x ea ⟨a1, a2, a3, a4, rfl⟩ l2 hx
      refine ⟨_, gd_name, sd_one (SD1.imp (Sg := fun σ => ∃ b c d, σ = [some (.ref pc), some (.ref pm), some va, some (.ref p), some v1, some x, b, c, d]) (sd_for (r := rSd) (xs := sidesOf j) (passes_of rfl) rfl (pg_name (i := 6) S.nd rfl (Or.inl rfl)) ⟨_, _, _, rfl⟩ (es_list (ev_name 4 rfl ((rLst F rSd).mono l2 hv1))) ?_) ?_)⟩
      · rintro i2 sd σ2 K4 x2 ea2 ⟨c4, c5, c6, rfl⟩ l4 hx2
        refine ⟨_, gd_name, sd_one (sd_if ⟨_, _, _, rfl⟩ (et_notinC hu (ev_call2 (D1.mono (by decide)) hr (ev_name 5 rfl (rCell.mono l4 hx)) (ev_name 6 rfl hx2) trivial) (ev_name 0 rfl ((rDC rBl).mono (l2.trans l4) h1'))) fun _ => sd_one (sd_dputI hu ⟨_, _, _, rfl⟩ ev_bl (ev_name 3 rfl rfl) (ev_call2 (D2.mono (by decide)) hr (ev_name 5 rfl (rCell.mono l4 hx)) (ev_name 6 rfl hx2) trivial)))⟩
      · rintro σ2 ⟨c4, c5, c6, rfl⟩
        exact ⟨_, _, _, _, rfl⟩
    · obtain ⟨s1, s2, s3, s4, rfl⟩ := sg
      have h1'' := (rDC rBl).mono n3.le h1'
      have h2'' := (rDN P w rStr).mono n3.le h2'
      have hv3 := (rLst F rSd).mono n3.le hv1
      refine ss_sd (bs := need2 l j) (ys := need1 cs j) (F := fillDI rBl) (Sg := fun σ => ∃ a b c d, σ = [some (.ref pc), some (.ref pm), some va, some (.ref p), some v1, a, b, c, d]) (sd_forL (K := K3) (r := rSq F) (passes_of rfl) rfl (pg_name (i := 7) S.nd rfl (Or.inl rfl)) ⟨_, _, _, _, rfl⟩ (.inr (.inr ⟨_, rfl⟩)) (n3.le pm _ (n1.le pm _ hm1)) (es_keysN (r := rStr) (ev_name 1 rfl rfl) h2'') ?_) n3.in_ e3 (by simpa using ob3) (by simp only [sz]; omega) fun σ4 K4 H4 o4 sg4 n4 e4 ob4 => ?_
      · rintro i q σ' K2 x ea ⟨a1, a2, a3, a4, rfl⟩ l2 hx
        obtain ⟨pq, pcc, rfl, hq1, hq2⟩ := id hx
        have hcell : rCell.r K2 (.ref pcc) q.1 := ⟨pcc, rfl, hq2⟩
        have hmem := List.mem_of_getElem? ea
        refine ⟨_, gd_name, sd_set (σ2 := [some (.ref pc), some (.ref pm), some va, some (.ref p), some v1, some (.ref pcc), a2, some (.ref pq), some (.str (sname q.2))]) (fun K5 H5 l5 l6 D k5 => s_asgG (g := gt2 F 5 8) (pg_n2 5 8 rfl S.nd rfl rfl (Or.inl rfl) (Or.inl rfl) (Or.inl rfl) (Or.inl rfl)) (K := K5) (r := rVal) (a := .ref pq) l6 (ev_name 7 rfl rfl) fun v K6 H6 n6 hv6 => ?_) ?_⟩
        · obtain rfl : v = .ref pq := hv6
          exact gd_tup2 (SqT.of (co_tup.mp ((l5.trans n6.le) pq _ hq1))) gd_name gd_name H6 n6.in_ _ (k5 K6 H6 n6)
        · refine sd_one (SD1.imp (Sg := fun σ => ∃ b, σ = [some (.ref pc), some (.ref pm), some va, some (.ref p), some v1, some (.ref pcc), b, some (.ref pq), some (.str (sname q.2))]) (sd_for (r := rSd) (xs := sidesOf j) (passes_of rfl) rfl (pg_name (i := 6) S.nd rfl (Or.inl rfl)) ⟨_, rfl⟩ (es_list (ev_name 4 rfl ((rLst F rSd).mono l2 hv3))) ?_) ?_)
          · rintro i2 sd σ2 K4 x2 ea2 ⟨c4, rfl⟩ l4 hx2
            have hm4 := (rDN P w rStr).mono (l2.trans l4) h2''
            refine ⟨_, gd_name, sd_one (sd_if (b := markTest l j q sd) ⟨_, rfl⟩ (EW.et (ew_and (et_notinSd (ev_name (r := rSd) (a := q.2) 8 rfl rfl) (ev_name 4 rfl ((rLst F rSd).mono (l2.trans l4) hv3))) fun _ => ew_and1 (et_neOS (ev_getN hu64 (r := rStr) (ev_name 1 rfl hm4) (ev_sq (ev_call2 (D1.mono (by decide)) hr (ev_name 5 rfl (rCell.mono l4 hcell)) (ev_name 6 rfl hx2) trivial) (ev_name (r := rSd) (a := q.2) 8 rfl rfl)) ⟨rfl, rfl, rfl, rfl⟩) (ev_dgetN hu64 (r := rStr) (ev_name 1 rfl hm4) (ev_name 7 rfl ((rSq F).mono l4 hx)) ?_)))) fun _ => sd_one (sd_dputI hu ⟨_, rfl⟩ ev_bl (ev_name 3 rfl rfl) (ev_call2 (D2.mono (by decide)) hr (ev_name 5 rfl (rCell.mono l4 hcell)) (ev_name 6 rfl hx2) trivial)))⟩
            exact dget_getD (List.mem_of_getElem? ea)
          · rintro σ2 ⟨c4, rfl⟩
            exact ⟨_, _, _, _, rfl⟩
      · obtain ⟨t1, t2, t3, t4, rfl⟩ := sg4
        have hk := le_era_none n4.in_
        have nn := nE1.trans (n3.trans n4)
        exact ss_one (s_ret (a := neededF cs l j) (nn.pubE e4).in_ (ev_sortedDI (r := rBl) (l := dputs [] (need1 cs j ++ need2 l j)) rfl T.bSorted ok.n (ev_name (v := .ref p) 3 rfl (fin_dI ob4 hk))) fun v K' H' n hv => q _ K' H' ((nn.pubE e4).trans n) hv)
end
end SN
end TQU

section TQV
set_option Elab.async false
set_option linter.all false
set_option maxRecDepth 100000
set_option maxHeartbeats 4000017
/-! QV: simplified, points of a cell. -/
namespace SN
open PySem PySem.Spec PyProof.Rows L2
section
variable {X : Cx}
def rlb (env : Env) (y : Str × NameKind) : Str × NameKind := if (y.2 == NameKind.free && env.scope.kind == .function && env.kindOf y.1 == some .cell) then (y.1, NameKind.cell) else y
theorem rlb_1 (env : Env) (y : Str × NameKind) : (rlb env y).1 = y.1 := by unfold rlb; split <;> rfl
theorem rlb_2 (env : Env) (y : Str × NameKind) (h : y.2 = .cell ∨ y.2 = .free) : (rlb env y).2 = .cell ∨ (rlb env y).2 = .free := by
  unfold rlb
  split
  · exact .inl rfl
  · exact h
theorem lookup_rlb {env : Env} {x : Str} : ∀ {names : List (Str × NameKind)}, names.lookup x = some .cell ∨ names.lookup x = some .free → (names.map (rlb env)).lookup x = some .cell ∨ (names.map (rlb env)).lookup x = some .free
  | [], h => by simp at h
  | y :: l, h => by
    rw [List.map_cons]
    have e1 : (rlb env y :: l.map (rlb env)).lookup x = if (x == y.1) = true then some (rlb env y).2 else (l.map (rlb env)).lookup x := by
      rw [show rlb env y = ((rlb env y).1, (rlb env y).2) from rfl, List.lookup_cons, rlb_1]
      cases (x == y.1) <;> rfl
    have e2 : (y :: l).lookup x = if (x == y.1) = true then some y.2 else l.lookup x := by
      rw [show y = (y.1, y.2) from rfl, List.lookup_cons]
      cases (x == y.1) <;> rfl
    rw [e1]
    rw [e2] at h
    by_cases e : (x == y.1) = true
    · rw [if_pos e] at h ⊢
      have := rlb_2 env y (h.imp Option.some.inj Option.some.inj)
      exact this.imp (congrArg some) (congrArg some)
    · rw [if_neg e] at h ⊢
      exact lookup_rlb h
theorem blk_in {scope inner : Scope} {own : List (Str × Nat)} {s : Shared} {H : Hp} {C : Addr} {cl : List (Str × Addr)} {fp : List Addr} (h : BlkOk X.N scope inner own) : BlkOk (blkX X scope s H C cl fp).N (blkX X scope s H C cl fp).env.scope inner own := ⟨h.kind, h.uniq, h.ix, fun y hy e => lookup_rlb (env := X.env) (h.free y hy e), h.own⟩
end
section
variable {X : Cx} {σ : L2.St} {K : Hp} {e : Expr} {j0 : Nat} {pos pos' : Pos} {q : Sq}
theorem ev_sq0 {j1} (h : EV X e σ K (rSq X.K) q) : EV X (.Subscript e (.Constant (.int 0) j1 pos') pos) σ K rCell q.1 :=
  ev_ixT h ev_int fun K1 v _ ⟨p, c, e1, h1, h2⟩ => ⟨p, _, .ref c, e1, SqT.of (co_tup.mp h1), rfl, ⟨c, rfl, h2⟩⟩
theorem ev_sq1 {j1} (h : EV X e σ K (rSq X.K) q) : EV X (.Subscript e (.Constant (.int 1) j1 pos') pos) σ K rSd q.2 :=
  ev_ixT h ev_int fun K1 v _ ⟨p, c, e1, h1, h2⟩ => ⟨p, _, .str (sname q.2), e1, SqT.of (co_tup.mp h1), rfl, rfl⟩
end
/-- new_indexes -/
def newIxE (ns : List Int) : List (Int × Int) := (idx (ns.zip (ns.drop 1))).flatMap fun z => (rng z.2.1 z.2.2).flatMap fun old => [(old, z.1)]
def newIxF (ns : List Int) : List (Int × Int) := dputs [] (newIxE ns)
def NewOk (ns : List Int) : Prop := ns.length ≤ 1000 ∧ (∀ x ∈ ns, 0 ≤ x ∧ x ≤ 1000) ∧ (newIxE ns).length ≤ sz
abbrev Cells := List (Cell × Bool)
abbrev Marks := List (Sq × Str)
def ixOf (cs : Cells) (l : Marks) (j : Nat) (x : Int) : Int := (dget (newIxF (neededF cs l j)) x).getD 0
def mvF (cs : Cells) (l : Marks) (c : Cell) : Cell := (ixOf cs l 0 c.1, ixOf cs l 1 c.2.1, ixOf cs l 2 c.2.2)
def pairMv (cs : Cells) (l : Marks) (c : Cell) : Cell × Cell := (c, mvF cs l c)
def movedF (cs : Cells) (l : Marks) : List (Cell × Cell) := dputs [] ((cs.map (·.1)).map (pairMv cs l))
def mvd (cs : Cells) (l : Marks) (c : Cell) : Cell := (dget (movedF cs l) c).getD (0, 0, 0)
def atL (a : Lines) (j i : Int) : Int := (a.getD j.toNat []).getD i.toNat 0
def fewRow (a : Lines) (cs : Cells) (l : Marks) (j : Int) : List Int := (neededF cs l j.toNat).map (atL a j)
def fewestF (a : Lines) (cs : Cells) (l : Marks) : Lines := (rng 0 3).map (fewRow a cs l)
def keptQ (cs : Cells) (l : Marks) (q : Sq) : Sq × Str := ((mvd cs l q.1, q.2), (dget l q).getD default)
def cellQ (cs : Cells) (l : Marks) (c : Cell) : Cell × Bool := (mvd cs l c, true)
def cellsF (cs : Cells) (l : Marks) : Cells := dputs [] ((cs.map (·.1)).map (cellQ cs l))
def keptF (cs : Cells) (l : Marks) : Marks := dputs [] ((l.map (·.1)).map (keptQ cs l))
def simpF (a : Lines) (cs : Cells) (l : Marks) : Lines × Cells × Marks := (fewestF a cs l, cellsF cs l, keptF cs l)
structure SimpOk (a : Lines) (cs : Cells) (l : Marks) : Prop where
  need : ∀ j < 3, NeedOk cs l j
  la : a.length = 3
  ix : ∀ j < 3, ∀ i ∈ neededF cs l j, 0 ≤ i ∧ i.toNat < (a.getD j []).length
  new : ∀ j < 3, NewOk (neededF cs l j)
  mv : ∀ c ∈ cs.map (·.1), ∀ j < 3, (dget (newIxF (neededF cs l j)) (axOf c j)).isSome = true
  kp : ∀ q ∈ l.map (·.1), q.1 ∈ cs.map (·.1)
theorem rng3 : rng 0 3 = [0, 1, 2] := by decide
theorem mem_rng3 {i : Nat} {a : Int} (h : (rng 0 3)[i]? = some a) : 0 ≤ a ∧ a.toNat < 3 := by
  have := mem_rng.mp (List.mem_of_getElem? h)
  omega
theorem int_nat {K : Hp} {v : V} {a : Int} (h : rInt.r K v a) (h0 : 0 ≤ a) : rNat.r K v a.toNat := by
  show v = .int ((a.toNat : Nat) : Int)
  rw [← nat_of h0]
  exact h
theorem dget_put {κ α : Type} [DecidableEq κ] (l : List (κ × α)) (k : κ) (a : α) (j : κ) : dget (dput l k a) j = if j = k then some a else dget l j := by
  unfold dput
  split
  · rename_i h
    induction l with
    | nil => simp at h
    | cons x l ih =>
      rw [List.map_cons]
      by_cases e : x.1 = k
      · rw [if_pos e]
        by_cases ej : j = k
        · simp [dget, ej, e]
        · have : ¬ x.1 = j := fun z => ej (z.symm.trans e)
          rw [if_neg ej]
          have e1 : dget ((x.1, a) :: l.map fun kv => if kv.1 = k then (kv.1, a) else kv) j = dget (l.map fun kv => if kv.1 = k then (kv.1, a) else kv) j := by simp [dget, this]
          have e2 : dget (x :: l) j = dget l j := by simp [dget, this]
          rw [e1, e2]
          by_cases h2 : (l.any fun kv => decide (kv.1 = k)) = true
          · rw [ih h2, if_neg ej]
          · congr 1
            conv => rhs; rw [← List.map_id l]
            refine List.map_congr_left fun y hy => ?_
            have : ¬ y.1 = k := fun z => h2 (List.any_eq_true.mpr ⟨y, hy, by simp [z]⟩)
            rw [if_neg this]; rfl
      · rw [if_neg e]
        have h2 : (l.any fun kv => decide (kv.1 = k)) = true := by simpa [e] using h
        by_cases ej : x.1 = j
        · have : ¬ j = k := fun z => e (ej.trans z)
          simp [dget, ej, this]
        · have e1 : dget (x :: l.map fun kv => if kv.1 = k then (kv.1, a) else kv) j = dget (l.map fun kv => if kv.1 = k then (kv.1, a) else kv) j := by simp [dget, ej]
          have e2 : dget (x :: l) j = dget l j := by simp [dget, ej]
          rw [e1, e2, ih h2]
  · rename_i h
    induction l with
    | nil =>
      by_cases ej : j = k
      · simp [dget, ej]
      · simp [dget, ej, Ne.symm ej, fun z : k = j => ej z.symm]
    | cons x l ih =>
      have h1 : ¬ x.1 = k := fun z => h (by simp [z])
      have h2 : ¬ (l.any fun kv => decide (kv.1 = k)) = true := fun z => h (by simp [z])
      by_cases ej : x.1 = j
      · have : ¬ j = k := fun z => h1 (ej.trans z)
        simp [dget, ej, this]
      · have e1 : dget (x :: (l ++ [(k, a)])) j = dget (l ++ [(k, a)]) j := by simp [dget, ej]
        have e2 : dget (x :: l) j = dget l j := by simp [dget, ej]
        rw [List.cons_append, e1, e2, ih h2]
theorem dget_puts {κ α : Type} [DecidableEq κ] (f : κ → α) (j : κ) : ∀ (ks : List κ) (l : List (κ × α)), dget (dputs l (ks.map fun k => (k, f k))) j = if j ∈ ks then some (f j) else dget l j
  | [], l => by simp [dputs]
  | k :: ks, l => by
    show dget (dputs (dput l k (f k)) (ks.map fun k => (k, f k))) j = _
    rw [dget_puts f j ks, dget_put]
    by_cases h : j ∈ ks
    · simp [h]
    · by_cases e : j = k
      · subst e; simp [h]
      · simp [h, e]
theorem mvd_eq {cs : Cells} {l : Marks} {c : Cell} (h : c ∈ cs.map (·.1)) : dget (movedF cs l) c = some (mvd cs l c) ∧ mvd cs l c = mvF cs l c := by
  have e : dget (movedF cs l) c = some (mvF cs l c) := by
    unfold movedF
    rw [show (pairMv cs l) = (fun k => (k, mvF cs l k)) from rfl, dget_puts, if_pos h]
  unfold mvd
  rw [e]
  exact ⟨rfl, rfl⟩
section
variable {P : Program} {w : World} {F : PySem.W.Frag} {mg : Str → Option Value} {base : Heap}
abbrev NSimp : List Str := ["lines", "cells", "marks", "needed", "across", "along", "up", "fewest", "moved", "kept", "axis", "indexes", "index", "cell", "square"]
theorem df_simplified (T : TX w F mg) (D1 : Df P w F mg base 3 "needed_indexes" (sp3 (rDC rBl) (rDN P w rStr) rNat (rLst F rInt) NeedOk neededF)) (D2 : Df P w F mg base 1 "new_indexes" (sp1 (rLst F rInt) (rDI rInt) NewOk newIxF)) (G : FnF F mg "simplified" stSimplified ["lines", "cells", "marks"]) :
    Df P w F mg base 4 "simplified" (sp3 (rTupL F (rTupL F rInt)) (rDC rBl) (rDN P w rStr) (rTup3 F (rTupL F (rTupL F rInt)) (rDC rBl) (rDN P w rStr)) SimpOk simpF) := by
  have S : FnScope NSimp ["lines", "cells", "marks"] (defScope stSimplified) := ⟨rfl, rfl, rfl, by decide +kernel, rfl, by decide +kernel, by decide +kernel⟩
  refine df_fn G S (fun vs H Q E ⟨K, v, a, u, b, w, c, e, _⟩ => by rw [e]; rfl) ?_
  rintro X _ H Q E f cdv A outer s rfl hr ⟨K, vl, a, vc, cs, vm, l, rfl, le, h1, h2, h3, ok, q⟩
  have hu := hu_of hr
  have hu64 := hr.units
  obtain ⟨pc, kvs, e1, hc1, hc2⟩ := id h2
  obtain ⟨pm, es, e2, hm1, hm2⟩ := id h3
  subst e1; subst e2
  -- needed
  refine ss_cons (s_asg (r := rLst F (rLst F rInt)) (a := (rng 0 3).map fun j => neededF cs l j.toNat) (i := 3) S.nd rfl (Or.inr rfl) le (ev_cd ?_) fun vn K1 H1 n1 hv1 => ?_)
  · refine cd_l1t (own := [("axis", 10)]) (f := fun j : Int => neededF cs l j.toNat) (rr := rLst F rInt) rfl S.nd (es_range1 T.bRange ev_int (by decide)) (blkOk_by (N := NSimp) (sc := defScope stSimplified) (by decide +kernel)) (fun _ _ _ _ _ => pg_name (i := 10) S.nd rfl (Or.inl rfl)) (by decide) ?_
    intro i j K2 x ea l2 hx
    obtain ⟨j0, j3⟩ := mem_rng3 ea
    exact ⟨_, gd_name, wipe_t (by decide), fun s H0 C cl fp => ev_call3 (b := l) D1 hr (ev_name 1 rfl ((rDC rBl).mono l2 h2)) (ev_name 2 rfl ((rDN P w rStr).mono l2 h3)) (ev_name 10 rfl (int_nat hx j0)) (ok.need _ j3)⟩
  rw [rng3] at hv1
  have hn0 : EV (cxD P w F mg base NSimp "simplified" stSimplified f cdv A outer s H E) (.Name "needed" ⟨0, 0, 0, 0⟩) ((L2.start NSimp [vl, .ref pc, .ref pm]).set 3 (some vn)) K1 (rLst F (rLst F rInt)) _ := ev_name 3 rfl hv1
  clear hn0
  -- across, along, up
  refine ss_cons (s_asgG (g := gLst F 3 (gCons (gName 4) (gCons (gName 5) (gCons (gName 6) gNil)))) (r := rLst F (rDI rInt)) (a := [neededF cs l 0, neededF cs l 1, neededF cs l 2].map newIxF) (pg_l3 4 5 6 rfl S.nd rfl rfl rfl (Or.inr rfl) (Or.inr rfl) (Or.inr rfl) (Or.inl rfl) (Or.inl rfl) (Or.inl rfl)) n1.in_ (ev_cd ?_) fun va K2 H2 n2 hv2 => ?_)
  · refine cd_l1t (own := [("indexes", 11)]) (xs := [neededF cs l 0, neededF cs l 1, neededF cs l 2]) (f := newIxF) (rr := rDI rInt) rfl S.nd (es_list (ev_name 3 rfl hv1)) (blkOk_by (N := NSimp) (sc := defScope stSimplified) (by decide +kernel)) (fun _ _ _ _ _ => pg_name (i := 11) S.nd rfl (Or.inl rfl)) (by simp [sz]) ?_
    intro i ns K2 x ea l2 hx
    refine ⟨_, gd_name, wipe_t (by decide), fun s H0 C cl fp => ev_call1 (D2.mono (by decide)) hr (ev_name 11 rfl hx) ?_⟩
    have := List.mem_of_getElem? ea
    simp only [List.mem_cons, List.not_mem_nil, or_false] at this
    rcases this with e | e | e <;> rw [e]
    · exact ok.new 0 (by decide)
    · exact ok.new 1 (by decide)
    · exact ok.new 2 (by decide)
  obtain ⟨pa, vs, ea, hpa, hpr⟩ := hv2
  subst ea
  cases hpr with
  | cons x1 hpr =>
  cases hpr with
  | cons x2 hpr =>
  cases hpr with
  | cons x3 hpr =>
  cases hpr
  rename_i u1 u2 u3
  refine gd_lst3 hpa gd_name gd_name gd_name H2 n2.in_ _ ?_
  show wSs _ _ _ _ _
  have h1' := (rTupL F (rTupL F rInt)).mono (n1.trans n2).le h1
  have h2' := (rDC rBl).mono (n1.trans n2).le h2
  have h3' := (rDN P w rStr).mono (n1.trans n2).le h3
  have hn' := (rLst F (rLst F rInt)).mono n2.le hv1
  -- fewest
  refine ss_cons (s_asg (r := rTupL F (rTupL F rInt)) (a := fewestF a cs l) (i := 7) S.nd rfl (Or.inl rfl) n2.in_ (ev_tupleOf T.bTuple (ev_cd ?_)) fun vf K3 H3 n3 hv3 => ?_)
  · refine cd_l1t (own := [("axis", 10)]) (xs := rng 0 3) (f := fewRow a cs l) (rr := rTupL F rInt) rfl S.nd (es_range1 T.bRange ev_int (by decide)) (blkOk_by (N := NSimp) (sc := defScope stSimplified) (by decide +kernel)) (fun _ _ _ _ _ => pg_name (i := 10) S.nd rfl (Or.inr rfl)) (by decide) ?_
    intro i j K4 x ea l2 hx
    obtain ⟨j0, j3⟩ := mem_rng3 ea
    refine ⟨_, gd_name, wipe_t (by decide), fun s H0 C cl fp => ev_tupleOf T.bTuple (ev_cd ?_)⟩
    have hj : ([0, 1, 2] : List Int)[j.toNat]? = some j := by
      have : j = 0 ∨ j = 1 ∨ j = 2 := by omega
      rcases this with rfl | rfl | rfl <;> rfl
    have hnj : ([0, 1, 2].map fun j : Int => neededF cs l j.toNat)[j.toNat]? = some (neededF cs l j.toNat) := by rw [List.getElem?_map, hj]; rfl
    have haj : a[j.toNat]? = some (a.getD j.toNat []) := getD_get (by rw [ok.la]; exact j3)
    refine cd_l1t (own := [("index", 12)]) (xs := neededF cs l j.toNat) (f := atL a j) (rr := rInt) rfl S.nd (es_list (ev_itL (j := j.toNat) (ev_name 3 rfl ((rLst F (rLst F rInt)).mono l2 hn')) ((ev_name 10 rfl hx).of (nat_of j0)) hnj)) (blk_in (blkOk_by (N := NSimp) (by decide +kernel))) (fun _ _ _ _ _ => pg_name (i := 12) S.nd rfl (Or.inl rfl)) ?_ ?_
    · have := (ok.new _ j3).1
      exact Nat.le_trans this (by decide)
    · intro i2 y K5 z ez l5 hz
      obtain ⟨y0, yl⟩ := ok.ix _ j3 y (List.mem_of_getElem? ez)
      refine ⟨_, gd_name, wipe_t (by decide), fun s H0 C cl fp => ?_⟩
      exact ev_itT (j := y.toNat) (ev_itT (j := j.toNat) (ev_name 0 rfl ((rTupL F (rTupL F rInt)).mono (l2.trans l5) h1')) ((ev_name 10 rfl (rInt.mono l5 hx)).of (nat_of j0)) haj) ((ev_name 12 rfl hz).of (nat_of y0)) (getD_get yl)
  -- moved
  have h2c := (rDC rBl).mono n3.le h2'
  have h3c := (rDN P w rStr).mono n3.le h3'
  have hcK : co K3 pc = some (.dT kvs) := ((n1.trans n2).trans n3).le pc _ hc1
  refine ss_cons (s_asg (r := rDC rCell) (a := movedF cs l) (i := 8) S.nd rfl (Or.inr rfl) n3.in_ (ev_cdL (u := .dT kvs) (d := pc) (.inr (.inl ⟨kvs, rfl⟩)) hcK ?_) fun vmv K4 H4 n4 hv4 => ?_)
  · refine cd_dCt (own := [("cell", 13)]) (xs := List.map (fun x : Cell × Bool => x.1) cs) (f := pairMv cs l) (rr := rCell) hu rfl S.nd (es_keysC (ev_name 1 rfl rfl) h2c) (blkOk_by (N := NSimp) (sc := defScope stSimplified) (by decide +kernel)) (fun _ _ _ _ _ => pg_name (i := 13) S.nd rfl (Or.inl rfl)) ?_ ?_
    · have := (ok.need 0 (by decide)).c
      rw [List.length_map]; exact Nat.le_trans this (by decide)
    · intro i c K5 x ea l5 hx
      have hm := List.mem_of_getElem? ea
      have g : ∀ j < 3, dget (newIxF (neededF cs l j)) (axOf c j) = some (ixOf cs l j (axOf c j)) := fun j hj => by
        have := ok.mv c hm j hj
        unfold ixOf
        cases e : dget (newIxF (neededF cs l j)) (axOf c j) with
        | none => rw [e] at this; cases this
        | some v => rfl
      have y1 := (rDI rInt).mono (n3.le.trans l5) x1
      have y2 := (rDI rInt).mono (n3.le.trans l5) x2
      have y3 := (rDI rInt).mono (n3.le.trans l5) x3
      refine ⟨_, gd_name, wipe_t (by decide), fun s H0 C cl fp => ⟨ev_name 13 rfl hx, ev_cell (ev_dgetI hu (ev_name 4 rfl y1) (ev_cix (j := 0) (ev_name 13 rfl hx) ev_int (by decide)) (g 0 (by decide))) (ev_dgetI hu (ev_name 5 rfl y2) (ev_cix (j := 1) (ev_name 13 rfl hx) ev_int (by decide)) (g 1 (by decide))) (ev_dgetI hu (ev_name 6 rfl y3) (ev_cix (j := 2) (ev_name 13 rfl hx) ev_int (by decide)) (g 2 (by decide)))⟩⟩
  -- kept
  have h2d := (rDC rBl).mono n4.le h2c
  have h3d := (rDN P w rStr).mono n4.le h3c
  have hmK : co K4 pm = some (NdO P w pm es) := (((n1.trans n2).trans n3).trans n4).le pm _ hm1
  refine ss_cons (s_cdL (rr := rDN P w rStr) (z := keptF cs l) (i := 9) (u := NdO P w pm es) (d := pm) (.inr (.inr ⟨_, rfl⟩)) hmK S.nd rfl n4.in_ ?_ fun vk K5 H5 n5 hv5 => ?_)
  · refine cd_dNt (r := rSq F) (own := [("square", 14)]) (xs := List.map (fun x : Sq × Str => x.1) l) (f := keptQ cs l) (rr := rStr) hu64 rfl S.nd (es_keysN (r := rStr) (ev_name 2 rfl rfl) h3d) (blkOk_by (N := NSimp) (sc := defScope stSimplified) (by decide +kernel)) (fun _ _ _ _ _ => pg_name (i := 14) S.nd rfl (Or.inl rfl)) ?_ ?_
    · have := (ok.need 0 (by decide)).m
      rw [List.length_map]; exact Nat.le_trans this (by decide)
    · intro i q K6 x ea l6 hx
      have hm := List.mem_of_getElem? ea
      have g := (mvd_eq (l := l) (ok.kp q hm)).1
      refine ⟨_, gd_name, wipe_t (by decide), fun s H0 C cl fp => ⟨ev_sq (ev_dgetC hu (ev_name 8 rfl ((rDC rCell).mono l6 hv4)) (ev_sq0 (ev_name 14 rfl hx)) g) (ev_sq1 (ev_name 14 rfl hx)), ev_dgetN hu64 (ev_name 2 rfl ((rDN P w rStr).mono l6 h3d)) (ev_name 14 rfl hx) (dget_getD hm)⟩⟩
  -- return
  have hcK5 : co K5 pc = some (.dT kvs) := (n4.trans n5).le pc _ hcK
  refine ss_one (s_ret (r := rTup3 F (rTupL F (rTupL F rInt)) (rDC rBl) (rDN P w rStr)) (a := simpF a cs l) n5.in_ (ev_tup3 (ev_name 7 rfl ((rTupL F (rTupL F rInt)).mono (n4.trans n5).le hv3)) (ev_cdL (u := .dT kvs) (d := pc) (.inr (.inl ⟨kvs, rfl⟩)) hcK5 ?_) (ev_name 9 rfl hv5)) fun v K' H' n hv => q _ K' H' (((((n1.trans n2).trans n3).trans n4).trans n5).trans n) hv)
  refine cd_dCt (own := [("cell", 13)]) (xs := List.map (fun x : Cell × Bool => x.1) cs) (f := cellQ cs l) (rr := rBl) hu rfl S.nd (es_keysC (ev_name 1 rfl rfl) ((rDC rBl).mono (n4.trans n5).le h2c)) (blkOk_by (N := NSimp) (sc := defScope stSimplified) (by decide +kernel)) (fun _ _ _ _ _ => pg_name (i := 13) S.nd rfl (Or.inl rfl)) ?_ ?_
  · have := (ok.need 0 (by decide)).c
    rw [List.length_map]; exact Nat.le_trans this (by decide)
  · intro i c K6 x ea l6 hx
    have hm := List.mem_of_getElem? ea
    exact ⟨_, gd_name, wipe_t (by decide), fun s H0 C cl fp => ⟨ev_dgetC hu (ev_name 8 rfl ((rDC rCell).mono (n5.le.trans l6) hv4)) (ev_name 13 rfl hx) (mvd_eq hm).1, ev_bl⟩⟩
end
end SN
end TQV

section TQW
set_option Elab.async false
set_option linter.all false
set_option maxRecDepth 100000
set_option maxHeartbeats 4000017
/-! QW: low_point, high_point, sizes; checks; product_of, index_of. -/
namespace SN
open PySem PySem.Spec PyProof.Rows L2
section
variable {X : Cx} {α : Type} {σ : L2.St} {K : Hp} {r : Rel α} {a : α}
theorem rCell.tupL {F : PySem.W.Frag} {K : Hp} {v : V} {c : Cell} (h : rCell.r K v c) : (rTupL F rInt).r K v [c.1, c.2.1, c.2.2] := by
  obtain ⟨p, e, h⟩ := h
  exact ⟨p, _, e, SqT.of (co_tup.mp h), .cons rfl (.cons rfl (.cons rfl .nil))⟩
theorem ev_cellL {e : Expr} {c : Cell} (h : EV X e σ K rCell c) : EV X e σ K (rTupL X.K rInt) [c.1, c.2.1, c.2.2] := h.imp fun _ _ _ h => rCell.tupL h
/-- tuple([x, y, z]) of ints, a new one -/
theorem ev_tupleC {e : Expr} {p pos : Pos} {x y z : Int} (hm : X.mg "tuple" = none) (h : EV X e σ K (rLst X.K rInt) [x, y, z]) (hg : Gl X "tuple" := by rfl) (he : starEach [e] X.env = (false, eval e X.env) :: starEach [] X.env := by rfl) (hpl : (backTo pos (starEach [] X.env)).any (·.1) = false := by rfl) :
    EV X (.Call (.Name "tuple" p) [e] [] pos) σ K rCell (x, y, z) :=
  ev_callTy call_tuple_of hm (by decide +kernel) (ea_1 h he) (fun vs K1 H1 Q _ l ⟨v, _, e1, ⟨p, ws, e2, h1, h2⟩, e3⟩ q => by
    subst e3; subst e1; subst e2
    refine ⟨p, ws, rfl, .inl ⟨le_L l h1, fun z hz => q _ _ _ (.new l hz) ⟨z, rfl, co_tup.mpr ?_⟩⟩⟩
    rw [upd_same, paired_int h2]
    rfl) hg (by decide) (by decide) he hpl
end
def lowJ (a : Lines) (c : Cell) (j : Int) : Int := atL a j (axOf c j.toNat)
def highJ (a : Lines) (c : Cell) (j : Int) : Int := atL a j (axOf c j.toNat + 1)
def lowF (a : Lines) (c : Cell) : Cell := (lowJ a c 0, lowJ a c 1, lowJ a c 2)
def highF (a : Lines) (c : Cell) : Cell := (highJ a c 0, highJ a c 1, highJ a c 2)
def LowOk (a : Lines) (c : Cell) : Prop := a.length = 3 ∧ ∀ j < 3, 0 ≤ axOf c j ∧ (axOf c j).toNat + 1 < (a.getD j []).length
def szF (a : Lines) (c : Cell) : Cell := ((highF a c).1 - (lowF a c).1, (highF a c).2.1 - (lowF a c).2.1, (highF a c).2.2 - (lowF a c).2.2)
section
variable {P : Program} {w : World} {F : PySem.W.Frag} {mg : Str → Option Value} {base : Heap}
abbrev spPoint (F : PySem.W.Frag) (f : Lines → Cell → Cell) : Sp := sp2 (rTupL F (rTupL F rInt)) rCell rCell LowOk f
theorem df_low (T : TX w F mg) (G : FnF F mg "low_point" stLow ["lines", "cell"]) : Df P w F mg base 1 "low_point" (spPoint F lowF) := by
  have S : FnScope ["lines", "cell", "axis"] ["lines", "cell"] (defScope stLow) := ⟨rfl, rfl, rfl, by decide +kernel, rfl, by decide +kernel, by decide +kernel⟩
  refine df_fn G S (fun vs H Q E ⟨K, v, a, u, b, e, _⟩ => by rw [e]; rfl) ?_
  rintro X _ H Q E f cdv A outer s rfl hr ⟨K, vl, a, vc, c, rfl, le, h1, h2, ⟨la, ok⟩, q⟩
  refine ss_one (s_ret (a := lowF a c) le (ev_tupleC T.bTuple (ev_cd ?_)) fun v K' H' n hv => q _ K' H' n hv)
  show CD _ _ _ _ _ _ ([0, 1, 2].map (lowJ a c))
  rw [← rng3]
  refine cd_l1t (own := [("axis", 2)]) (xs := rng 0 3) (f := lowJ a c) (rr := rInt) rfl S.nd (es_range1 T.bRange ev_int (by decide)) (blkOk_by (N := ["lines", "cell", "axis"]) (sc := defScope stLow) (by decide +kernel)) (fun _ _ _ _ _ => pg_name (i := 2) S.nd rfl (Or.inl rfl)) (by decide) ?_
  intro i j K2 x ea l2 hx
  obtain ⟨j0, j3⟩ := mem_rng3 ea
  obtain ⟨b0, b1⟩ := ok _ j3
  have haj : a[j.toNat]? = some (a.getD j.toNat []) := getD_get (by rw [la]; exact j3)
  exact ⟨_, gd_name, wipe_t (by decide), fun s H0 C cl fp => ev_itT (ev_itT (j := j.toNat) (ev_name 0 rfl ((rTupL F (rTupL F rInt)).mono l2 h1)) ((ev_name 2 rfl hx).of (nat_of j0)) haj) ((ev_cix (j := j.toNat) (ev_name 1 rfl (rCell.mono l2 h2)) ((ev_name 2 rfl hx).of (nat_of j0)) j3).of (nat_of b0)) (getD_get (by omega))⟩
theorem df_high (T : TX w F mg) (G : FnF F mg "high_point" stHigh ["lines", "cell"]) : Df P w F mg base 1 "high_point" (spPoint F highF) := by
  have S : FnScope ["lines", "cell", "axis"] ["lines", "cell"] (defScope stHigh) := ⟨rfl, rfl, rfl, by decide +kernel, rfl, by decide +kernel, by decide +kernel⟩
  refine df_fn G S (fun vs H Q E ⟨K, v, a, u, b, e, _⟩ => by rw [e]; rfl) ?_
  rintro X _ H Q E f cdv A outer s rfl hr ⟨K, vl, a, vc, c, rfl, le, h1, h2, ⟨la, ok⟩, q⟩
  refine ss_one (s_ret (a := highF a c) le (ev_tupleC T.bTuple (ev_cd ?_)) fun v K' H' n hv => q _ K' H' n hv)
  show CD _ _ _ _ _ _ ([0, 1, 2].map (highJ a c))
  rw [← rng3]
  refine cd_l1t (own := [("axis", 2)]) (xs := rng 0 3) (f := highJ a c) (rr := rInt) rfl S.nd (es_range1 T.bRange ev_int (by decide)) (blkOk_by (N := ["lines", "cell", "axis"]) (sc := defScope stHigh) (by decide +kernel)) (fun _ _ _ _ _ => pg_name (i := 2) S.nd rfl (Or.inl rfl)) (by decide) ?_
  intro i j K2 x ea l2 hx
  obtain ⟨j0, j3⟩ := mem_rng3 ea
  obtain ⟨b0, b1⟩ := ok _ j3
  have haj : a[j.toNat]? = some (a.getD j.toNat []) := getD_get (by rw [la]; exact j3)
  exact ⟨_, gd_name, wipe_t (by decide), fun s H0 C cl fp => ev_itT (ev_itT (j := j.toNat) (ev_name 0 rfl ((rTupL F (rTupL F rInt)).mono l2 h1)) ((ev_name 2 rfl hx).of (nat_of j0)) haj) ((ev_add (ev_cix (j := j.toNat) (ev_name 1 rfl (rCell.mono l2 h2)) ((ev_name 2 rfl hx).of (nat_of j0)) j3) ev_int).of (nat_of (by omega))) (getD_get (by omega))⟩
def subZ (z : Int × Int) : Int := z.2 - z.1
theorem df_sizes (T : TX w F mg) (D1 : Df P w F mg base 1 "low_point" (spPoint F lowF)) (D2 : Df P w F mg base 1 "high_point" (spPoint F highF)) (G : FnF F mg "sizes" stSizes ["lines", "cell"]) : Df P w F mg base 2 "sizes" (spPoint F szF) := by
  have S : FnScope ["lines", "cell", "low", "high"] ["lines", "cell"] (defScope stSizes) := ⟨rfl, rfl, rfl, by decide +kernel, rfl, by decide +kernel, by decide +kernel⟩
  refine df_fn G S (fun vs H Q E ⟨K, v, a, u, b, e, _⟩ => by rw [e]; rfl) ?_
  rintro X _ H Q E f cdv A outer s rfl hr ⟨K, vl, a, vc, c, rfl, le, h1, h2, ok, q⟩
  refine ss_one (s_ret (a := szF a c) le (ev_tupleC T.bTuple (ev_cd ?_)) fun v K' H' n hv => q _ K' H' n hv)
  show CD _ _ _ _ _ _ ((List.zip [(lowF a c).1, (lowF a c).2.1, (lowF a c).2.2] [(highF a c).1, (highF a c).2.1, (highF a c).2.2]).map subZ)
  refine cd_l1t (g := gt2 F 2 3) (own := [("low", 2), ("high", 3)]) (xs := List.zip [(lowF a c).1, (lowF a c).2.1, (lowF a c).2.2] [(highF a c).1, (highF a c).2.1, (highF a c).2.2]) (f := subZ) (rr := rInt) rfl S.nd (es_zipT T.bZip (ev_cellL (ev_call2 D1 hr (ev_name 0 rfl h1) (ev_name 1 rfl h2) ok)) (ev_cellL (ev_call2 D2 hr (ev_name 0 rfl h1) (ev_name 1 rfl h2) ok))) (blkOk_by (N := ["lines", "cell", "low", "high"]) (sc := defScope stSizes) (by decide +kernel))
    (fun _ _ _ _ _ => pg_n2 2 3 rfl S.nd rfl rfl (Or.inl rfl) (Or.inl rfl) (Or.inr rfl) (Or.inr rfl)) (by simp [sz]) ?_
  rintro i ⟨x, y⟩ K2 z ea l2 ⟨p, v1, v2, rfl, hp, hx, hy⟩
  exact ⟨_, gd_tup2 hp gd_name gd_name, (wipe_set (by decide)).trans (wipe_t (by decide)), fun s H0 C cl fp => ev_sub (ev_name 3 rfl hy) (ev_name 2 rfl hx)⟩
end
end SN
end TQW

section TQX
set_option Elab.async false
set_option linter.all false
set_option maxRecDepth 100000
set_option maxHeartbeats 4000017
/-! QX: zip(*pair), isinstance, chains of three, the checks. -/
namespace SN
open PySem PySem.Spec PyProof.Rows L2
/-- zip(*pair) of a tuple of two tuples -/
theorem zipS_call {M : Model} {A : Around} {E : Value → Shared → Prop} {s : Shared} {x : Sem Value} {pos : Pos} {Q : Value → Shared → Prop}
    (h : wpAny M A x (fun v s₁ => PySem.W.StarOf M A E v (fun vs s₂ => True ∧ wpAny M A (call (.type "zip") vs) Q E s₂) s₁) E s) : wpAny M A (callWith pos (.type "zip") [] [(true, (do let v ← x; standAt pos; pure v))] []) Q E s :=
  PySem.W.ks_call (P := fun _ => True) rfl (fun _ _ => ⟨.machine, .inr (.inl rfl), PySem.W.Looks.of_pure rfl⟩) (PySem.W.ks_lone h)
theorem pi_zipS {X : Cx} {e : Expr} {te : TE} {p p2 pos tpos : Pos} {elts : List Expr} {kk : Nat} (hg : Gl X "zip") (hm : X.mg "zip" = none) (he : PE X e te) (hs : starEach [.Starred e p2] X.env = [(true, eval e X.env)]) :
    PI X (.Tuple elts kk tpos) (.Call (.Name "zip" p) [.Starred e p2] [] pos) (fun σ H R => te σ H fun y H1 => ∃ q a b xs ys, y = .ref q ∧ SqT X.K H1 q [.ref a, .ref b] ∧ SqT X.K H1 a xs ∧ SqT X.K H1 b ys ∧ R (RZ.ItzT X.K a b) H1) := by
  refine ⟨fun pins s σ H R I h => ?_⟩
  refine Call_ (ld_blt I hg hm PyProof.Rows.boot_zip ?_)
  rw [hs]
  refine zipS_call (thn (he.run pins s σ H _ I h) fun v s0 ⟨y, H1, I0, ry, q, a, b, xs, ys, ey, hq, hqx, hqy, qq⟩ => ?_)
  subst ey
  obtain rfl : v = Value.ref q := ry
  refine StX.star_any I0 (.inl hq) fun us s1 I1 rv => ⟨trivial, ?_⟩
  cases rv with
  | cons r rr =>
    cases rr with
    | cons r' rr =>
      cases rr
      cases r
      cases r'
      have fresh : ∀ c, c ∈ [s1.heap.objs.size + 4, s1.heap.objs.size + 2, s1.heap.objs.size + 3, s1.heap.objs.size, s1.heap.objs.size + 1] → FpOk X pins H1 c := fun c hcm => by
        have hle : s1.heap.objs.size ≤ c := by
          simp only [List.mem_cons, List.not_mem_nil, or_false] at hcm
          omega
        exact I1.fpOk hle (I1.hok.fresh hle)
      obtain ⟨its, rv, p1, _⟩ := I1.tuple hqx
      obtain ⟨its2, rv2, p2', _⟩ := I1.tuple hqy
      obtain ⟨o1, ho1, _⟩ := id p1
      obtain ⟨o2, ho2, _⟩ := id p2'
      refine RZ.call_zipT (show s1.heap.IsTuple a its.toArray from p1) (show s1.heap.IsTuple b its2.toArray from p2') fun h' hz hTI hTO h1 h2 hsz hk => wpAny_pyIter_zip hz ?_
      exact ⟨s1.heap.objs.size + 4, [s1.heap.objs.size + 4, s1.heap.objs.size + 2, s1.heap.objs.size + 3, s1.heap.objs.size, s1.heap.objs.size + 1], _, _, H1, rfl, I1.kept (t' := s1.toks) hk, RZ.turn_zipT (PySem.W.ktu_apart s1.heap.objs.size a b (Heap.lt_size ho1) (Heap.lt_size ho2)), ⟨hz, hTI, ⟨_, _, hTO⟩, h1, h2⟩, fresh, qq⟩
section
variable {X : Cx} {α β : Type} {σ : L2.St} {K : Hp} {r : Rel α} {a : α}
abbrev Box := Cell × Cell
def rBox : Rel Box := ⟨fun H v b => ∃ p x y, v = .ref p ∧ co H p = some (.tup [x, y]) ∧ rCell.r H x b.1 ∧ rCell.r H y b.2, fun le ⟨p, x, y, e, h, h1, h2⟩ => ⟨p, x, y, e, le p _ h, rCell.mono le h1, rCell.mono le h2⟩⟩
def trip (c : Cell) : List Int := [c.1, c.2.1, c.2.2]
theorem es_zipS {elts : List Expr} {kk : Nat} {tpos p p2 pos : Pos} {e : Expr} {b : Box} (hm : X.mg "zip" = none) (h : EV X e σ K rBox b) (hg : Gl X "zip" := by rfl) (hs : starEach [.Starred e p2] X.env = [(true, eval e X.env)] := by rfl) :
    ES X (.Tuple elts kk tpos) (.Call (.Name "zip" p) [.Starred e p2] [] pos) σ K [] (rTup2 X.K rInt rInt) ((trip b.1).zip (trip b.2)) := fun H le _ R q =>
  PI.to (pi_zipS hg hm (peW e) hs) (h H le _ fun v K1 H1 n ⟨z, x, y, e1, h1, hx, hy⟩ => by
    obtain ⟨pa, as, ea, ha, hap⟩ := rCell.tupL (F := X.K) hx
    obtain ⟨pb, bs, eb, hb, hbp⟩ := rCell.tupL (F := X.K) hy
    subst e1; subst ea; subst eb
    refine ⟨z, pa, pb, as, bs, rfl, SqT.of (co_tup.mp (n.in_ z _ h1)), le_T n.in_ ha, le_T n.in_ hb, q _ K1 H1 n (wk_pair (walk_zipT (by rw [List.length_zip]; show min (trip b.1).length (trip b.2).length = _; rw [paired_len hap, paired_len hbp]; rfl)) (fun H' l => ⟨le_T l ha, le_T l hb⟩) (zip_hx hap hbp))⟩)
/-! ### isinstance -/
def Ty (K : Hp) (F : PySem.W.Frag) (v : V) (t : String) : Prop := ∀ H, Le K H → TyX F H v (.type t)
theorem ev_isi {e : Expr} {T : Str} {t : String} {pT p pos : Pos} {b : Bool} {n : String} (hm : X.mg "isinstance" = none) (hT : X.mg T = none) (hb : bootBuiltins T = some (.type n)) (h : EV X e σ K r a) (ht : ∀ K1 v, Le K K1 → r.r K1 v a → Ty K1 X.K v t) (hk : kitB t n = some b)
    (hg : Gl X "isinstance" := by rfl) (hgT : Gl X T := by rfl) (hnT : T ≠ "__name__" := by decide) (hdT : (T == ("__debug__" : Str)) = false := by decide)
    (hs : starEach [e, .Name T pT] X.env = (false, eval e X.env) :: starEach [.Name T pT] X.env := by rfl) (hs2 : starEach [.Name T pT] X.env = (false, eval (.Name T pT) X.env) :: starEach [] X.env := by rfl) (hpl : (backTo pos (starEach [.Name T pT] X.env)).any (·.1) = false := by rfl) :
    EV X (.Call (.Name "isinstance" p) [e, .Name T pT] [] pos) σ K rBl b :=
  have hTe : EV X (.Name T pT) σ K rVal (.ty n) := fun H l Q q => PE.to (pe_bltn (v := .ty n) hgT hT hb rfl hnT hdT) (q _ K H (.refl l) rfl)
  ev_callB call_isi hm (by decide +kernel) (ea_cons h (ea_1 hTe hs2) (mo_cons mo_nil) hs) (fun vs K1 H1 Q l0 l ⟨v, _, e1, hv, w, _, e2, hw, e3⟩ q => by
    subst e3; subst e2; subst e1
    obtain rfl : w = .ty n := hw
    exact ⟨v, .ty n, .type t, .type n, b, rfl, .ty n, ht K1 v l0 hv H1 l, kit_ty hk, q _ K1 H1 (.refl l) rfl⟩) hg (by decide) (by decide) hs hpl
theorem ty_int {K1 : Hp} {v : V} {i : Int} (h : rInt.r K1 v i) : Ty K1 X.K v "int" := fun H l => by obtain rfl := h; exact .base (.int i)
theorem ty_str {K1 : Hp} {v : V} {i : Str} (h : rStr.r K1 v i) : Ty K1 X.K v "str" := fun H l => by obtain rfl := h; exact .base (.str i)
theorem ty_cell {K1 : Hp} {v : V} {c : Cell} (h : rCell.r K1 v c) : Ty K1 X.K v "tuple" := fun H l => by obtain ⟨p, e, h⟩ := h; subst e; exact .base (.tup (co_tup.mp (l p _ h)))
theorem ty_box {K1 : Hp} {v : V} {b : Box} (h : rBox.r K1 v b) : Ty K1 X.K v "tuple" := fun H l => by obtain ⟨p, x, y, e, h, _⟩ := h; subst e; exact .base (.tup (co_tup.mp (l p _ h)))
theorem ev_neg {e : Expr} {pos : Pos} {i : Int} (h : EV X e σ K rInt i) : EV X (.UnaryOp .USub e pos) σ K rInt (-i) := fun H l Q q =>
  PE.to (pe_un un_neg (peW e)) (h H l _ fun v K1 H1 n hv => ⟨i, hv, q _ K1 H1 n rfl⟩)
/-- a <= b < c <= d of ints -/
theorem pe_ch3 {o1 o2 o3 : CmpOp} {r1 r2 r3 : R2} {a b c d : Expr} {ta tb tc td : TE} {pos : Pos} (h1 : OpR X (compareOp o1) r1) (h2 : OpR X (compareOp o2) r2) (h3 : OpR X (compareOp o3) r3) (ha : PE X a ta) (hb : PE X b tb) (hc : PE X c tc) (hd : PE X d td)
    (hm : lastMarks [o1, o2, o3] [b, c, d] = false) : PE X (.Compare a [o1, o2, o3] [b, c, d] pos) (fun σ H Q => ta σ H fun x H1 => tb σ H1 fun y H2 => r1 x y H2 fun z H3 => ∃ k, z = .bl k ∧
      (if k = true then tc σ H3 fun w H4 => r2 y w H4 fun z2 H5 => ∃ k2, z2 = .bl k2 ∧ (if k2 = true then td σ H5 fun u H6 => r3 w u H6 Q else Q (.bl false) H5) else Q (.bl false) H3)) := by
  refine ⟨fun pins s σ H Q I h => ?_⟩
  refine Compare_chain (thn (ha.run pins s σ H _ I h) fun v s1 ⟨x, H1, I1, rx, q1⟩ => chain_link (thn (hb.run pins s1 σ H1 _ I1 q1) fun u s2 ⟨y, H2, I2, ry, q2⟩ => thn (h1 pins s2 σ H2 x y v u _ I2 rx ry q2) fun _ s3 ⟨z, H3, I3, rz, k, e, q3⟩ => ?_)) hm
  subst e
  cases rz
  refine wpAny_truthy_bool ?_
  cases k with
  | false => exact ite_ff ⟨.bl false, H3, I3, rfl, q3⟩
  | true =>
    refine ite_tt (chain_link (thn (hc.run pins s3 σ H3 _ I3 q3) fun w' s4 ⟨w1, H4, I4, rw', q4⟩ => thn (h2 pins s4 σ H4 y w1 u w' _ I4 ry rw' q4) fun _ s5 ⟨z2, H5, I5, rz2, k2, e2, q5⟩ => ?_))
    subst e2
    cases rz2
    refine wpAny_truthy_bool ?_
    cases k2 with
    | false => exact ite_ff ⟨.bl false, H5, I5, rfl, q5⟩
    | true => exact ite_tt (chain_last (thn (hd.run pins s5 σ H5 _ I5 q5) fun u' s6 ⟨u1, H6, I6, ru, q6⟩ => h3 pins s6 σ H6 w1 u1 w' u' Q I6 rw' ru q6))
theorem ev_ch3 {a b c d : Expr} {pos : Pos} {i j k l : Int} (ha : EV X a σ K rInt i) (hb : EV X b σ K rInt j) (hc : EV X c σ K rInt k) (hd : EV X d σ K rInt l) (hm : lastMarks [CmpOp.LtE, .Lt, .LtE] [b, c, d] = false := by rfl) :
    EV X (.Compare a [.LtE, .Lt, .LtE] [b, c, d] pos) σ K rBl (decide (i ≤ j) && (decide (j < k) && decide (k ≤ l))) := fun H le Q q =>
  PE.to (pe_ch3 op_le op_lt op_le (peW a) (peW b) (peW c) (peW d) hm) (ha H le _ fun x K1 H1 n1 hx => hb.mono n1.le H1 n1.in_ _ fun y K2 H2 n2 hy => ⟨i, j, hx, hy, decide (i ≤ j), rfl, by
    cases e : decide (i ≤ j) with
    | false => exact iteF (q _ K2 H2 (n1.trans n2) (by rw [e]; rfl))
    | true => exact iteT (hc.mono (n1.trans n2).le H2 n2.in_ _ fun w K3 H3 n3 hw => ⟨j, k, hy, hw, decide (j < k), rfl, by
        cases e2 : decide (j < k) with
        | false => exact iteF (q _ K3 H3 ((n1.trans n2).trans n3) (by rw [e, e2]; rfl))
        | true => exact iteT (hd.mono ((n1.trans n2).trans n3).le H3 n3.in_ _ fun u K4 H4 n4 hu => ⟨k, l, hw, hu, q _ K4 H4 (((n1.trans n2).trans n3).trans n4) (by rw [e, e2]; rfl)⟩)⟩)⟩)
end
/-! ### the checks -/
abbrev stIsInt : Stmt := top 35
abbrev stIsPoint : Stmt := top 36
abbrev stIsBox : Stmt := top 37
abbrev stIsName : Stmt := top 38
abbrev stNeedName : Stmt := top 41
abbrev stNeedBox : Stmt := top 42
structure TB (mg : Str → Option Value) : Prop where
  isi : mg "isinstance" = none
  int : mg "int" = none
  bool : mg "bool" = none
  str : mg "str" = none
  limit : ∃ t, mg "LIMIT" = some (.int (10 ^ 30) t)
  nameLen : ∃ t, mg "NAME_LENGTH" = some (.int 8 t)
  letters : ∃ t, mg "LETTERS" = some (.str "abcdefghijklmnopqrstuvwxyz" t)
  lines : ∃ t, mg "LINES" = some (.int 20 t)
def okPair (z : Int × Int) : Bool := decide (-(10 ^ 30) ≤ z.1) && (decide (z.1 < z.2) && decide (z.2 ≤ 10 ^ 30))
def isBoxF (b : Box) : Bool := (((trip b.1).zip (trip b.2)).map okPair).all id
section
variable {P : Program} {w : World} {F : PySem.W.Frag} {mg : Str → Option Value} {base : Heap}
theorem df_isInt (B : TB mg) (G : FnF F mg "is_integer" stIsInt ["value"]) : Df P w F mg base 1 "is_integer" (sp1 rInt rBl (fun _ => True) fun _ => true) := by
  have S : FnScope ["value"] ["value"] (defScope stIsInt) := ⟨rfl, rfl, rfl, by decide +kernel, rfl, by decide +kernel, by decide +kernel⟩
  refine df_fn G S (fun vs H Q E ⟨K, v, a, e, _⟩ => by rw [e]; rfl) ?_
  rintro X _ H Q E f cdv A outer s rfl hr ⟨K, v, i, rfl, l, h1, _, q⟩
  exact ss_one (s_ret (r := rBl) (a := true) l (ev_and (b := true) (c := true) (ev_isi (r := rInt) (a := i) (t := "int") (n := "int") B.isi B.int (by decide +kernel) (ev_name 0 rfl h1) (fun K1 v _ h => ty_int h) (by decide +kernel)) fun _ => ev_one (ev_not (b := false) (ev_isi (r := rInt) (a := i) (t := "int") (n := "bool") B.isi B.bool (by decide +kernel) (ev_name 0 rfl h1) (fun K1 v _ h => ty_int h) (by decide +kernel)))) fun v K' H' n hv => q _ K' H' n hv)
abbrev spIsInt : Sp := sp1 rInt rBl (fun _ => True) fun _ => true
theorem all_true {α : Type} (xs : List α) : (xs.map fun _ => true).all id = true := by simp
theorem df_isPoint (T : TX w F mg) (B : TB mg) (D1 : Df P w F mg base 1 "is_integer" spIsInt) (G : FnF F mg "is_point" stIsPoint ["value"]) : Df P w F mg base 2 "is_point" (sp1 rCell rBl (fun _ => True) fun _ => true) := by
  have S : FnScope ["value", "part"] ["value"] (defScope stIsPoint) := ⟨rfl, rfl, rfl, by decide +kernel, rfl, by decide +kernel, by decide +kernel⟩
  refine df_fn G S (fun vs H Q E ⟨K, v, a, e, _⟩ => by rw [e]; rfl) ?_
  rintro X _ H Q E f cdv A outer s rfl hr ⟨K, v, c, rfl, l, h1, _, q⟩
  refine ss_one (s_ret (r := rBl) (a := true) l (ev_and (b := true) (c := true) (ev_isi (r := rCell) (a := c) (t := "tuple") (n := "tuple") B.isi T.bTuple (by decide +kernel) (ev_name 0 rfl h1) (fun K1 v _ h => ty_cell h) (by decide +kernel)) fun _ => ev_and (b := true) (c := true) (ev_eqI (i := 3) (j := 3) (ev_lenT (l := trip c) T.bLen (ev_cellL (ev_name 0 rfl h1))) ev_int) fun _ => ev_one ((ev_all (bs := (trip c).map fun _ => true) rfl T.bAll (ev_cd ?_)).of (all_true _))) fun v K' H' n hv => q _ K' H' n hv)
  refine cd_l1t (own := [("part", 1)]) (xs := trip c) (f := fun _ => true) (rr := rBl) rfl S.nd (es_tup (ev_cellL (ev_name 0 rfl h1))) (blkOk_by (N := ["value", "part"]) (sc := defScope stIsPoint) (by decide +kernel)) (fun _ _ _ _ _ => pg_name (i := 1) S.nd rfl (Or.inl rfl)) (by simp [sz, trip]) ?_
  exact fun i x K2 z ea l2 hx => ⟨_, gd_name, wipe_t (by decide), fun s H0 C cl fp => by exact ev_call1 (f := fun _ => true) (a := x) D1 hr (ev_name 1 rfl hx) trivial⟩
abbrev spIsPoint : Sp := sp1 rCell rBl (fun _ => True) fun _ => true
def ofBox (b : Box) : List Cell := [b.1, b.2]
theorem rBox.tupL {K : Hp} {v : V} {b : Box} (h : rBox.r K v b) : (rTupL F rCell).r K v (ofBox b) := by
  obtain ⟨p, x, y, e, h, h1, h2⟩ := h
  exact ⟨p, _, e, SqT.of (co_tup.mp h), .cons h1 (.cons h2 .nil)⟩
theorem df_isBox (T : TX w F mg) (B : TB mg) (D1 : Df P w F mg base 2 "is_point" spIsPoint) (G : FnF F mg "is_box" stIsBox ["value"]) : Df P w F mg base 3 "is_box" (sp1 rBox rBl (fun _ => True) isBoxF) := by
  have S : FnScope ["value", "point", "low", "high"] ["value"] (defScope stIsBox) := ⟨rfl, rfl, rfl, by decide +kernel, rfl, by decide +kernel, by decide +kernel⟩
  refine df_fn G S (fun vs H Q E ⟨K, v, a, e, _⟩ => by rw [e]; rfl) ?_
  rintro X _ H Q E f cdv A outer s rfl hr ⟨K, v, b, rfl, l, h1, _, q⟩
  obtain ⟨tl, hl⟩ := B.limit
  refine ss_cons (s_if (b := false) l (EW.et (ew_or (b := false) (c := false) (et_not (b := true) (et_val (ev_isi (r := rBox) (a := b) (t := "tuple") (n := "tuple") B.isi T.bTuple (by decide +kernel) (ev_name 0 rfl h1) (fun K1 v _ h => ty_box h) (by decide +kernel)))) fun _ => ew_or (b := false) (c := false) (et_neI (i := 2) (j := 2) (ev_lenT (l := ofBox b) T.bLen ((ev_name 0 rfl h1).imp fun _ _ _ h => rBox.tupL h)) ev_int) fun _ => ew_or1 (et_not (b := true) (et_val ((ev_all (bs := (ofBox b).map fun _ => true) rfl T.bAll (ev_cd ?_)).of (all_true _)))))) (fun e => Bool.noConfusion e) fun _ H1 s1 l1 => ?_)
  · refine cd_l1t (own := [("point", 1)]) (xs := ofBox b) (f := fun _ => true) (rr := rBl) rfl S.nd (es_tup ((ev_name 0 rfl h1).imp fun _ _ _ h => rBox.tupL h)) (blkOk_by (N := ["value", "point", "low", "high"]) (sc := defScope stIsBox) (by decide +kernel)) (fun _ _ _ _ _ => pg_name (i := 1) S.nd rfl (Or.inl rfl)) (by simp [sz, ofBox]) ?_
    exact fun i x K2 z ea l2 hx => ⟨_, gd_name, wipe_t (by decide), fun s H0 C cl fp => by exact ev_call1 (f := fun _ => true) (a := x) D1 hr (ev_name 1 rfl hx) trivial⟩
  · refine ss_nil ?_
    refine ss_one (s_ret (r := rBl) (a := isBoxF b) l1 (ev_all (bs := ((trip b.1).zip (trip b.2)).map okPair) rfl T.bAll (ev_cd ?_)) fun v K' H' n hv => q _ K' H' ((Nxt.same1 l s1).trans n) hv)
    refine cd_l1t (g := gt2 F 2 3) (own := [("low", 2), ("high", 3)]) (xs := (trip b.1).zip (trip b.2)) (f := okPair) (rr := rBl) rfl S.nd (es_zipS T.bZip (ev_name 0 rfl h1)) (blkOk_by (N := ["value", "point", "low", "high"]) (sc := defScope stIsBox) (by decide +kernel)) (fun _ _ _ _ _ => pg_n2 2 3 rfl S.nd rfl rfl (Or.inl rfl) (Or.inl rfl) (Or.inr rfl) (Or.inr rfl)) (by simp [sz, trip]) ?_
    rintro i ⟨x, y⟩ K2 z ea l2 ⟨p, v1, v2, rfl, hp, hx, hy⟩
    refine ⟨_, gd_tup2 hp gd_name gd_name, (wipe_set (by decide)).trans (wipe_t (by decide)), fun s H0 C cl fp => ?_⟩
    exact ev_ch3 (ev_neg (ev_glob (v := .int (10 ^ 30)) hl ⟨tl, rfl⟩ rfl)) (ev_name 2 rfl hx) (ev_name 3 rfl hy) (ev_glob (v := .int (10 ^ 30)) hl ⟨tl, rfl⟩ rfl)
end
end SN
end TQX

section TQY
set_option Elab.async false
set_option linter.all false
set_option maxRecDepth 100000
set_option maxHeartbeats 4000017
/-! QY: sum of bools; texts as names; need_name, need_box; grid_of_boxes, index_of, product_of. -/
namespace SN
open PySem PySem.Spec PyProof.Rows L2
def b01 (b : Bool) : Int := if b = true then 1 else 0
section
variable {X : Cx}
theorem cr_sumB (hc : X.calm = true) : CallR X (.builtin "sum") (fun vs H Q => ∃ (a : Addr) (bs : List Bool), vs = [V.ref a] ∧ SqL X.K H a (bs.map V.bl) ∧ Q (.int (bs.map b01).sum) H) := by
  intro pins s σ H vs us Q I r h
  obtain ⟨a, bs, rfl, hs, q⟩ := h
  obtain ⟨its, rv, hl, _⟩ := I.list hs
  rw [Vals.ref1 r]
  have hla : s.heap.IsList a its.toArray := hl.isList
  have hlt : a < s.heap.objs.size := by obtain ⟨_, e, _⟩ := id hla; exact Heap.lt_size e
  have e0 := Vals.bls rv
  have hh : X.A.handled = none := I.ok.hd hc
  refine call_sum_walkAnyB (wpAny_pyIter_list hla ?_)
  refine ⟨_, _, _, _, _, _, _, fun i => (bs.map b01).getD i 0, rfl, (Walks.list (A := X.A.in1) hh s.heap.objs.size a (Nat.ne_of_lt hlt) its.toArray).toS, ⟨⟨_, Heap.get?_push_size _ rfl, rfl, rfl⟩, hla.push _⟩, fun b hb => ?_, fun i v hv => ?_, fun s' t' hm => ?_⟩
  · show b < (s.heap.push _).objs.size
    rw [Heap.size_push]
    rcases List.mem_cons.mp hb with z | hb
    · rw [z]; exact Nat.lt_succ_self _
    · rw [List.mem_singleton.mp hb]; exact Nat.lt_succ_of_lt hlt
  · have z : its[i]? = some v := by simpa using hv
    rw [e0, List.getElem?_map] at z
    cases e : bs[i]? with
    | none => rw [e] at z; cases z
    | some b =>
      rw [e] at z
      refine .inr ⟨b, (Option.some.inj z).symm, ?_⟩
      show (bs.map b01).getD i 0 = _
      simp [List.getD, e, b01]
  · obtain ⟨h', g, d, tk, os⟩ := s'
    obtain ⟨m1, m2, m3, m4, m5⟩ := hm
    obtain rfl : g = s.gens := m2
    obtain rfl : d = s.drawn := m3
    obtain rfl : os = s.os := m4
    have ez : its.toArray.size = (bs.map b01).length := by rw [List.size_toArray, e0, List.length_map, List.length_map]
    have e1 := preSum_getD (bs.map b01) its.toArray.size
    rw [ez, List.take_length] at e1
    refine ⟨.int (bs.map b01).sum, H, I.kept (h' := h') (t' := tk) fun b o e => m1 b o (fun z => ?_) (Heap.get?_push_of_some _ e), ⟨t', ?_⟩, q⟩
    · rw [List.mem_singleton.mp z] at e
      exact absurd (Heap.lt_size e) (Nat.lt_irrefl _)
    · rw [ez, e1]
section
variable {σ : L2.St} {K : Hp} {e : Expr} {p pos : Pos}
theorem ev_sumB {bs : List Bool} (hc : X.calm = true) (hm : X.mg "sum" = none) (h : EV X e σ K (rLst X.K rBl) bs) (hg : Gl X "sum" := by rfl) (he : starEach [e] X.env = (false, eval e X.env) :: starEach [] X.env := by rfl) (hpl : (backTo pos (starEach [] X.env)).any (·.1) = false := by rfl) : EV X (.Call (.Name "sum" p) [e] [] pos) σ K rInt (bs.map b01).sum :=
  ev_callB (cr_sumB hc) hm (by decide +kernel) (ea_1 h he) (fun vs K1 H1 Q _ l ⟨v, _, e1, ⟨p, ws, e2, h1, h2⟩, e3⟩ q => by
    subst e3; subst e1; subst e2
    exact ⟨p, bs, rfl, paired_bl h2 ▸ le_L l h1, q _ _ _ (.refl l) rfl⟩) hg (by decide) (by decide) he hpl
theorem ev_lenS {z : Str} (hm : X.mg "len" = none) (hz : z.length ≤ sizeLine) (h : EV X e σ K rStr z) (hg : Gl X "len" := by rfl) (he : starEach [e] X.env = (false, eval e X.env) :: starEach [] X.env := by rfl) (hpl : (backTo pos (starEach [] X.env)).any (·.1) = false := by rfl) : EV X (.Call (.Name "len" p) [e] [] pos) σ K rInt z.length :=
  ev_callB call_len_str hm PySem.boot_len (ea_1 h he) (fun vs K1 H1 Q _ l ⟨v, _, e1, hv, e3⟩ q => by
    subst e3; subst e1
    obtain rfl : v = .str z := hv
    exact ⟨z, rfl, hz, q _ _ _ (.refl l) rfl⟩) hg (by decide) (by decide) he hpl
theorem ev_inS {a b : Expr} {x y : Str} (ha : EV X a σ K rStr x) (hb : EV X b σ K rStr y) (hm : behindInMarks .In b = false := by rfl) : EV X (.Compare a [.In] [b] pos) σ K rBl (!(Builtin.Str.occurrences y x 0 y.length 1).isEmpty) := ev_cmp op_in_str hm ha hb fun K1 H1 u v Q _ l hu hv q => by
  obtain rfl : u = .str x := hu
  obtain rfl : v = .str y := hv
  exact ⟨x, y, rfl, rfl, q _ K1 H1 (.refl l) rfl⟩
end
end
/-! ### names -/
def nameL : List Str := ["a", "b", "c", "d", "bar"]
def letS : Str := "abcdefghijklmnopqrstuvwxyz"
def signs (z : Str) : List Str := z.cps.toList.map fun c => ⟨#[c]⟩
def isLet (c : Str) : Bool := !(Builtin.Str.occurrences letS c 0 letS.length 1).isEmpty
theorem names_ok : ∀ z ∈ nameL, ((signs z).map isLet).all id = true ∧ decide ((0 : Int) < z.length) = true ∧ decide ((z.length : Int) ≤ 8) = true ∧ z.length ≤ 8 := by decide +kernel
section
variable {P : Program} {w : World} {F : PySem.W.Frag} {mg : Str → Option Value} {base : Heap}
theorem df_isName (T : TX w F mg) (B : TB mg) (G : FnF F mg "is_name" stIsName ["value"]) : Df P w F mg base 1 "is_name" (sp1 rStr rBl (fun z => z ∈ nameL) fun _ => true) := by
  have S : FnScope ["value", "letter"] ["value"] (defScope stIsName) := ⟨rfl, rfl, rfl, by decide +kernel, rfl, by decide +kernel, by decide +kernel⟩
  refine df_fn G S (fun vs H Q E ⟨K, v, a, e, _⟩ => by rw [e]; rfl) ?_
  rintro X _ H Q E f cdv A outer s rfl hr ⟨K, v, z, rfl, l, h1, hz, q⟩
  obtain ⟨t1, b1⟩ := B.nameLen
  obtain ⟨t2, b2⟩ := B.letters
  obtain ⟨n1, n2, n3, n4⟩ := names_ok z hz
  refine ss_one (s_ret (r := rBl) (a := true) l (ev_and (b := true) (c := true) (ev_isi (r := rStr) (a := z) (t := "str") (n := "str") B.isi B.str (by decide +kernel) (ev_name 0 rfl h1) (fun K1 v _ h => ty_str h) (by decide +kernel)) fun _ => ev_and (b := true) (c := true) ((ev_chain2 (p1 := fun i j => decide (i < j)) (p2 := fun i j => decide (i ≤ j)) op_lt op_le ev_int (ev_lenS T.bLen (Nat.le_trans n4 (by decide)) (ev_name 0 rfl h1)) (ev_glob (v := .int 8) b1 ⟨t1, rfl⟩ rfl)).of (by rw [n2, n3]; rfl)) fun _ => ev_one ((ev_all (bs := (signs z).map isLet) rfl T.bAll (ev_cd ?_)).of n1)) fun v K' H' n hv => q _ K' H' n hv)
  refine cd_l1t (own := [("letter", 1)]) (xs := signs z) (f := isLet) (rr := rBl) rfl S.nd (es_str (ev_name 0 rfl h1)) (blkOk_by (N := ["value", "letter"]) (sc := defScope stIsName) (by decide +kernel)) (fun _ _ _ _ _ => pg_name (i := 1) S.nd rfl (Or.inl rfl)) ?_ ?_
  · have : (signs z).length = z.length := by simp [signs, Str.length]
    rw [this]; exact Nat.le_trans n4 (by decide)
  · exact fun i x K2 y ea l2 hx => ⟨_, gd_name, wipe_t (by decide), fun s H0 C cl fp => ev_inS (y := letS) (ev_name 1 rfl hx) (ev_glob (v := .str letS) b2 ⟨t2, rfl⟩ rfl)⟩
theorem df_needName (D1 : Df P w F mg base 1 "is_name" (sp1 rStr rBl (fun z => z ∈ nameL) fun _ => true)) (G : FnF F mg "need_name" stNeedName ["value"]) : Df P w F mg base 2 "need_name" (sp1 rStr rNon (fun z => z ∈ nameL) fun _ => ()) := by
  have S : FnScope ["value"] ["value"] (defScope stNeedName) := ⟨rfl, rfl, rfl, by decide +kernel, rfl, by decide +kernel, by decide +kernel⟩
  refine df_fn G S (fun vs H Q E ⟨K, v, a, e, _⟩ => by rw [e]; rfl) ?_
  rintro X _ H Q E f cdv A outer s rfl hr ⟨K, v, z, rfl, l, h1, hz, q⟩
  refine ss_one (s_if (b := false) l (et_not (b := true) (et_val (ev_call1 (a := z) (f := fun _ => true) D1 hr (ev_name 0 rfl h1) hz))) (fun e => Bool.noConfusion e) fun _ H1 s1 l1 => ?_)
  exact ss_nil (q _ K H1 (Nxt.same1 l s1) rfl)
theorem df_needBox (D1 : Df P w F mg base 3 "is_box" (sp1 rBox rBl (fun _ => True) isBoxF)) (G : FnF F mg "need_box" stNeedBox ["value"]) : Df P w F mg base 4 "need_box" (sp1 rBox rNon (fun b => isBoxF b = true) fun _ => ()) := by
  have S : FnScope ["value"] ["value"] (defScope stNeedBox) := ⟨rfl, rfl, rfl, by decide +kernel, rfl, by decide +kernel, by decide +kernel⟩
  refine df_fn G S (fun vs H Q E ⟨K, v, a, e, _⟩ => by rw [e]; rfl) ?_
  rintro X _ H Q E f cdv A outer s rfl hr ⟨K, v, z, rfl, l, h1, hz, q⟩
  refine ss_one (s_if (b := false) l (et_not (b := true) (et_val ((ev_call1 (a := z) (f := isBoxF) D1 hr (ev_name 0 rfl h1) trivial).of hz))) (fun e => Bool.noConfusion e) fun _ H1 s1 l1 => ?_)
  exact ss_nil (q _ K H1 (Nxt.same1 l s1) rfl)
end
end SN
end TQY

section TQZ
set_option Elab.async false
set_option linter.all false
set_option maxRecDepth 100000
set_option maxHeartbeats 4000017
/-! QZ: grid_of_boxes, index_of, product_of. -/
namespace SN
open PySem PySem.Spec PyProof.Rows L2
section
variable {X : Cx} {β : Type} {σ : L2.St} {K : Hp}
/-- a statement that sets slots to new things, then the rest -/
theorem sd_let {F : Fill β} {st : Stmt} {rest : List Stmt} {p : Addr} {Sg : L2.St → Prop} {R : L2.St → Hp → Prop} {bs : List β} (h : ∀ K1 H, Le K K1 → Le K1 H → ∀ D : Ends, (∀ σ2 K2 H2, Nxt K1 H K2 H2 → R σ2 K2 → D.nx σ2 H2) → wS X st D σ H) (hr : ∀ σ2 K2, Le K K2 → R σ2 K2 → SD X rest F p Sg σ2 K2 bs) : SD X (st :: rest) F p Sg σ K bs := fun K1 H o ys l l1 hd ob hz D q => by
  refine ss_cons (h K1 H l (era_le l1) _ fun σ2 K2 H2 n hR => ?_)
  have hk := le_era_none l1
  have nE := n.era hk hd (F.nt ob)
  exact hr σ2 K2 (l.trans n.le) hR K2 H2 o ys (.refl _) nE.in_ (n.same p _ hd) (F.mono n.le ob) hz D fun σ3 K3 H3 o3 hs n3 e3 ob3 => q σ3 K3 H3 o3 hs (nE.trans n3) e3 ob3
theorem et_chain2 {a b c : Expr} {o1 o2 : CmpOp} {pos : Pos} {p1 p2 : Int → Int → Bool} {i j k : Int} (h1 : OpR X (compareOp o1) (rI0 fun i j => .bl (p1 i j))) (h2 : OpR X (compareOp o2) (rI0 fun i j => .bl (p2 i j))) (ha : EV X a σ K rInt i) (hb : EV X b σ K rInt j) (hc : EV X c σ K rInt k)
    (m1 : lastMarks [o1, o2] [b, c] = false := by rfl) : ET X (.Compare a [o1, o2] [b, c] pos) σ K (p1 i j && p2 j k) := fun H l Q q =>
  PT.to (pt_chain h1 h2 (peW a) (peW b) (peW c) m1) (ha H l _ fun u K1 H1 n1 hu => hb.mono n1.le H1 n1.in_ _ fun v K2 H2 n2 hv => ⟨i, j, hu, hv, p1 i j, rfl, by
    cases e : p1 i j with
    | true => exact iteT (hc.mono (n1.trans n2).le H2 n2.in_ _ fun w K3 H3 n3 hw => ⟨j, k, hv, hw, _, rfl, by have z := q H3 ((n1.trans n2).trans n3).same; rw [e] at z; exact z⟩)
    | false => exact iteF ⟨_, rfl, by have z := q H2 (n1.trans n2).same; rw [e] at z; exact z⟩⟩)
end
abbrev stGrid : Stmt := top 46
abbrev stIndexOf : Stmt := top 47
abbrev stProduct : Stmt := top 48
def ptsF (bs : List Box) : List Cell := bs.flatMap ofBox
def gridRow (bs : List Box) (j : Int) : List Int := asc ((ptsF bs).map fun c => axOf c j.toNat)
def gridLn (bs : List Box) : Lines := (rng 0 3).map (gridRow bs)
def axRange (bs : List Box) (b : Box) (j : Int) : List Int := rng (plc (gridRow bs j) (axOf b.1 j.toNat)) (plc (gridRow bs j) (axOf b.2 j.toNat))
def boxCells (bs : List Box) (b : Box) : List Cell := triplesF (axRange bs b 0) (axRange bs b 1) (axRange bs b 2)
def gridE (bs : List Box) : List (Cell × Bool) := bs.flatMap fun b => (boxCells bs b).flatMap fun c => [(c, true)]
def gridCs (bs : List Box) : List (Cell × Bool) := dputs [] (gridE bs)
structure GridOk (bs : List Box) : Prop where
  few : (ptsF bs).length < 64
  has : ∀ b ∈ bs, ∀ j < 3, (dget (placeF (gridRow bs (j : Nat))) (axOf b.1 j)).isSome = true ∧ (dget (placeF (gridRow bs (j : Nat))) (axOf b.2 j)).isSome = true
  pl : ∀ b ∈ bs, ∀ j < 3, (0 ≤ plc (gridRow bs (j : Nat)) (axOf b.1 j) ∧ plc (gridRow bs (j : Nat)) (axOf b.1 j) ≤ 1000) ∧ (0 ≤ plc (gridRow bs (j : Nat)) (axOf b.2 j) ∧ plc (gridRow bs (j : Nat)) (axOf b.2 j) ≤ 1000)
  tz : ∀ b ∈ bs, (axRange bs b 0).length * ((axRange bs b 1).length * (axRange bs b 2).length) ≤ sz
  sz : (gridE bs).length ≤ sz
section
variable {P : Program} {w : World} {F : PySem.W.Frag} {mg : Str → Option Value} {base : Heap}
abbrev NGrid : List Str := ["boxes", "points", "lines", "place", "cells", "low", "high", "across", "along", "up", "cell", "box", "point", "axis", "own", "index", "line"]
def pairLI (z : Int × Int) : Int × Int := (z.2, z.1)
theorem asc_len (xs : List Int) : (asc xs).length ≤ xs.length := by
  unfold asc
  rw [(sortZ_perm _).length_eq, List.length_map]
  have := dputs_length (xs.map fun x => (x, true)) ([] : List (Int × Bool))
  rw [List.length_map] at this
  simpa using this
theorem df_grid (T : TX w F mg) (D1 : Df P w F mg base 1 "ascending" (sp1 (rLst F rInt) (rTupL F rInt) (fun xs => xs.length < 64) asc)) (D2 : Df P w F mg base 1 "triples" (sp3 (rLst F rInt) (rLst F rInt) (rLst F rInt) (rLst F rCell) (fun a b c => a.length * (b.length * c.length) ≤ sz) triplesF))
    (G : FnF F mg "grid_of_boxes" stGrid ["boxes"]) : Df P w F mg base 2 "grid_of_boxes" (sp1 (rTupL F rBox) (rTup2 F (rTupL F (rTupL F rInt)) (rDC rBl)) GridOk fun bs => (gridLn bs, gridCs bs)) := by
  have S : FnScope NGrid ["boxes"] (defScope stGrid) := ⟨rfl, rfl, rfl, by decide +kernel, rfl, by decide +kernel, by decide +kernel⟩
  refine df_fn G S (fun vs H Q E ⟨K, v, a, e, _⟩ => by rw [e]; rfl) ?_
  rintro X _ H Q E f cdv A outer s rfl hr ⟨K, vb, bs, rfl, le, h1, ok, q⟩
  have hu := hu_of hr
  have few := ok.few
  -- points
  have ep : (bs.flatMap (emit tt fun b => (ofBox b).flatMap (emit tt fun c => [c]))) = ptsF bs := by
    simp only [emit_t]
    exact congrArg (fun f => bs.flatMap f) (funext fun b => rfl)
  refine ss_cons (s_asg (r := rLst F rCell) (a := ptsF bs) (i := 1) S.nd rfl (Or.inr rfl) le (ev_cd ?_) fun v1 K1 H1 n1 hv1 => ?_)
  · refine ep ▸ cd_l2 (own := [("box", 11), ("point", 12)]) (vs1 := [12]) (p := tt) (p1 := fun _ => tt) (f := fun (_ : Box) (c : Cell) => c) (xs := bs) (ys := ofBox) (rr := rCell) (r := rBox) (r1 := rCell) rfl S.nd (es_tup (ev_name 0 rfl h1)) (blkOk_by (N := NGrid) (sc := defScope stGrid) (by decide +kernel)) (fun _ _ _ _ _ => pg_name (i := 11) S.nd rfl (Or.inl rfl)) (fun _ _ _ _ _ => pg_name (i := 12) S.nd rfl (Or.inl rfl)) (by decide) ?_ ?_
    · rw [ep]; exact Nat.le_trans (Nat.le_of_lt few) (by decide)
    · exact fun i b K2 x ea l2 hb => ⟨_, gd_name, wipe_t (by decide), fun s H0 C cl fp => ⟨rfl, fun _ => ⟨es_tup ((ev_name 11 rfl hb).imp fun _ _ _ h => rBox.tupL h), fun i2 c K3 y eb l3 hc => ⟨_, gd_name, wipe_t (by decide), rfl, fun _ => ev_name 12 rfl hc⟩⟩⟩⟩
  -- lines
  refine ss_cons (s_asg (r := rTupL F (rTupL F rInt)) (a := gridLn bs) (i := 2) S.nd rfl (Or.inl rfl) n1.in_ (ev_tupleOf T.bTuple (ev_cd ?_)) fun v2 K2 H2 n2 hv2 => ?_)
  · refine cd_l1t (own := [("axis", 13)]) (xs := rng 0 3) (f := gridRow bs) (rr := rTupL F rInt) rfl S.nd (es_range1 T.bRange ev_int (by decide)) (blkOk_by (N := NGrid) (sc := defScope stGrid) (by decide +kernel)) (fun _ _ _ _ _ => pg_name (i := 13) S.nd rfl (Or.inr rfl)) (by decide) ?_
    intro i j K3 x ea l2 hx
    obtain ⟨j0, j3⟩ := mem_rng3 ea
    refine ⟨_, gd_name, wipe_t (by decide), fun s H0 C cl fp => ev_call1 (a := (ptsF bs).map fun c => axOf c j.toNat) D1 hr (ev_cd ?_) (by rw [List.length_map]; exact few)⟩
    refine cd_l1t (own := [("point", 12)]) (xs := ptsF bs) (f := fun c : Cell => axOf c j.toNat) (rr := rInt) rfl S.nd (es_list (ev_name 1 rfl ((rLst F rCell).mono l2 hv1))) (blk_in (blkOk_by (N := NGrid) (by decide +kernel))) (fun _ _ _ _ _ => pg_name (i := 12) S.nd rfl (Or.inl rfl)) (Nat.le_trans (Nat.le_of_lt few) (by decide)) ?_
    exact fun i2 c K5 z ez l5 hz => ⟨_, gd_name, wipe_t (by decide), fun s H0 C cl fp => ev_cix (j := j.toNat) (ev_name 12 rfl hz) ((ev_name 13 rfl (rInt.mono l5 hx)).of (nat_of j0)) j3⟩
  -- place
  refine ss_cons (s_asg (r := rLst F (rDI rInt)) (a := (gridLn bs).map placeF) (i := 3) S.nd rfl (Or.inr rfl) n2.in_ (ev_cd ?_) fun v3 K3 H3 n3 hv3 => ?_)
  · refine cd_l1t (own := [("own", 14)]) (xs := gridLn bs) (f := placeF) (rr := rDI rInt) rfl S.nd (es_tup (ev_name 2 rfl hv2)) (blkOk_by (N := NGrid) (sc := defScope stGrid) (by decide +kernel)) (fun _ _ _ _ _ => pg_name (i := 14) S.nd rfl (Or.inl rfl)) ?_ ?_
    · have : (gridLn bs).length = 3 := by simp [gridLn, rng3]
      rw [this]; decide
    · intro i row K4 x ea l4 hx
      refine ⟨_, gd_name, wipe_t (by decide), fun s H0 C cl fp => ev_cd ?_⟩
      refine cd_dIt (g := gt2 F 15 16) (own := [("index", 15), ("line", 16)]) (xs := idx row) (f := pairLI) (rr := rInt) rfl S.nd (es_enT T.bEnum (ev_name 14 rfl hx)) (blk_in (blkOk_by (N := NGrid) (by decide +kernel))) (fun _ _ _ _ _ => pg_n2 15 16 rfl S.nd rfl rfl (Or.inl rfl) (Or.inl rfl) (Or.inr rfl) (Or.inr rfl)) ?_ ?_
      · rw [idx_length]
        obtain ⟨j, _, e⟩ := List.mem_map.mp (List.mem_of_getElem? ea)
        rw [← e]
        refine Nat.le_trans (asc_len _) ?_
        rw [List.length_map]
        exact Nat.le_trans (Nat.le_of_lt few) (by decide)
      · rintro i2 ⟨y, z⟩ K5 t et l5 ⟨p, v4, v5, rfl, hp, hy, hz⟩
        exact ⟨_, gd_tup2 hp gd_name gd_name, (wipe_set (by decide)).trans (wipe_t (by decide)), fun s H0 C cl fp => ⟨ev_name 16 rfl hz, ev_name 15 rfl hy⟩⟩
  -- cells
  have h1' := (rTupL F rBox).mono ((n1.trans n2).trans n3).le h1
  have hv2' := (rTupL F (rTupL F rInt)).mono n3.le hv2
  refine ss_cons (s_newT (i := 4) S.nd rfl (Or.inl rfl) fun p hp => ?_)
  have nE : era (upd H3 p (.dT [])) p = H3 := by rw [era_upd, era_none hp]
  refine ss_sd (bs := gridE bs) (ys := []) (F := fillDC rBl) (Sg := fun σ => ∃ a b c d e f, σ = [some vb, some v1, some v2, some v3, some (.ref p), a, b, c, d, e, f, none, none, none, none, none, none]) (sd_for (K := K3) (r := rBox) (xs := bs) (em := fun b => (boxCells bs b).flatMap fun c => [(c, true)]) (g := gt2 F 5 6) (passes_of rfl) rfl (pg_n2 5 6 rfl S.nd rfl rfl (Or.inr rfl) (Or.inr rfl) (Or.inl rfl) (Or.inl rfl)) ⟨_, _, _, _, _, _, rfl⟩ (es_tup (ev_name 0 rfl h1')) ?_) (by rw [nE]; exact n3.in_) upd_same ((fillDC rBl).nil K3) (by simpa using ok.sz) fun σ3 K4 H4 o3 sg n4 e3 ob3 => ?_
  · rintro i b σ' K4 x ea ⟨a1, a2, a3, a4, a5, a6, rfl⟩ l4 hx
    obtain ⟨pb, x1, x2, rfl, hpb, hx1, hx2⟩ := id hx
    have hm := List.mem_of_getElem? ea
    have hv3' := (rLst F (rDI rInt)).mono l4 hv3
    refine ⟨_, gd_tup2 (SqT.of (co_tup.mp hpb)) gd_name gd_name, ?_⟩
    refine sd_let (R := fun σ2 K2 => ∃ u1 u2 u3 c, σ2 = [some vb, some v1, some v2, some v3, some (.ref p), some x1, some x2, some u1, some u2, some u3, c, none, none, none, none, none, none] ∧ (rLst F rInt).r K2 u1 (axRange bs b 0) ∧ (rLst F rInt).r K2 u2 (axRange bs b 1) ∧ (rLst F rInt).r K2 u3 (axRange bs b 2)) (fun K5 H5 l5 l6 D k5 => ?_) ?_
    · refine s_asgG (K := K5) (g := gLst F 3 (gCons (gName 7) (gCons (gName 8) (gCons (gName 9) gNil)))) (r := rLst F (rLst F rInt)) (a := [axRange bs b 0, axRange bs b 1, axRange bs b 2]) (pg_l3 7 8 9 rfl S.nd rfl rfl rfl (Or.inl rfl) (Or.inl rfl) (Or.inl rfl) (Or.inl rfl) (Or.inl rfl) (Or.inl rfl)) l6 (ev_cd ?_) fun va K6 H6 n6 hv6 => ?_
      · show CD _ _ _ _ _ _ ([0, 1, 2].map (axRange bs b))
        rw [← rng3]
        refine cd_l1t (own := [("axis", 13)]) (xs := rng 0 3) (f := axRange bs b) (rr := rLst F rInt) rfl S.nd (es_range1 T.bRange ev_int (by decide)) (blkOk_by (N := NGrid) (sc := defScope stGrid) (by decide +kernel)) (fun _ _ _ _ _ => pg_name (i := 13) S.nd rfl (Or.inl rfl)) (by decide) ?_
        intro i3 j K7 z ez l7 hz
        obtain ⟨j0, j3⟩ := mem_rng3 ez
        have ej : ((j.toNat : Nat) : Int) = j := (nat_of j0).symm
        have hs := ok.has b hm j.toNat j3
        have hp2 := ok.pl b hm j.toNat j3
        rw [ej] at hs hp2
        have hpl : ((gridLn bs).map placeF)[j.toNat]? = some (placeF (gridRow bs j)) := by
          have : j = 0 ∨ j = 1 ∨ j = 2 := by omega
          rcases this with rfl | rfl | rfl <;> rfl
        have lk := (l5.trans l7)
        have w3 := (rLst F (rDI rInt)).mono lk hv3'
        have y1 := rCell.mono lk hx1
        have y2 := rCell.mono lk hx2
        refine ⟨_, gd_name, wipe_t (by decide), fun s H0 C cl fp => ev_listRg rfl T.bList T.bRange (ev_dgetI hu (ev_itL (j := j.toNat) (ev_name 3 rfl w3) ((ev_name 13 rfl hz).of (nat_of j0)) hpl) (ev_cix (j := j.toNat) (ev_name 5 rfl y1) ((ev_name 13 rfl hz).of (nat_of j0)) j3) (plc_get hs.1)) (ev_dgetI hu (ev_itL (j := j.toNat) (ev_name 3 rfl w3) ((ev_name 13 rfl hz).of (nat_of j0)) hpl) (ev_cix (j := j.toNat) (ev_name 6 rfl y2) ((ev_name 13 rfl hz).of (nat_of j0)) j3) (plc_get hs.2)) ?_⟩
        have b1 := hp2.1
        have b2 := hp2.2
        exact .of_le b1.1 (by omega) (by omega) b2.1
      · obtain ⟨pa, vs, ea, hpa, hpr⟩ := hv6
        subst ea
        cases hpr with
        | cons z1 hpr =>
        cases hpr with
        | cons z2 hpr =>
        cases hpr with
        | cons z3 hpr =>
        cases hpr
        exact gd_lst3 hpa gd_name gd_name gd_name H6 n6.in_ _ (k5 _ K6 H6 n6 ⟨_, _, _, _, rfl, z1, z2, z3⟩)
    · rintro σ2 K5 l5 ⟨u1, u2, u3, c, rfl, z1, z2, z3⟩
      refine sd_one (SD1.imp (Sg := fun σ => ∃ c, σ = [some vb, some v1, some v2, some v3, some (.ref p), some x1, some x2, some u1, some u2, some u3, c, none, none, none, none, none, none]) (sd_for (r := rCell) (xs := boxCells bs b) (em := fun c => [(c, true)]) (passes_of rfl) rfl (pg_name (i := 10) S.nd rfl (Or.inl rfl)) ⟨_, rfl⟩ (es_list (ev_call3 D2 hr (ev_name 7 rfl z1) (ev_name 8 rfl z2) (ev_name 9 rfl z3) (ok.tz b hm))) ?_) ?_)
      · rintro i2 c σ2 K6 x2' ea2 ⟨c4, rfl⟩ l6 hx2'
        exact ⟨_, gd_name, sd_one (sd_dputC hu ⟨_, rfl⟩ ev_bl (ev_name 4 rfl rfl) (ev_name 10 rfl hx2'))⟩
      · rintro σ2 ⟨c4, rfl⟩
        exact ⟨_, _, _, _, _, _, rfl⟩
  · have hk := le_era_none n4.in_
    rw [nE] at n4
    refine ss_one (s_ret (n4.pubE e3).in_ (ev_tup2 (ev_name (r := rTupL F (rTupL F rInt)) (v := v2) (i := 2) (by obtain ⟨a1, a2, a3, a4, a5, a6, rfl⟩ := sg; rfl) ((rTupL F (rTupL F rInt)).mono (n4.pubE e3).le hv2')) (ev_name (v := .ref p) (i := 4) (by obtain ⟨a1, a2, a3, a4, a5, a6, rfl⟩ := sg; rfl) (fin_dC (by simpa using ob3) hk))) fun v K' H' n hv => q _ K' H' ((((n1.trans n2).trans n3).trans (n4.pubE e3)).trans n) hv)
/-- index_of, where the coordinate lies within -/
def ixAt (ls : List Int) (x : Int) : Int := (ls.map fun y => b01 (decide (y ≤ x))).sum - 1
theorem df_indexOf (T : TX w F mg) (G : FnF F mg "index_of" stIndexOf ["lines", "coordinate"]) : Df P w F mg base 1 "index_of" (sp2 (rTupL F rInt) rInt rInt (fun ls x => ls.length ≤ 1000 ∧ 0 ≤ ixAt ls x ∧ ixAt ls x < ls.length - 1) ixAt) := by
  have S : FnScope ["lines", "coordinate", "at", "line"] ["lines", "coordinate"] (defScope stIndexOf) := ⟨rfl, rfl, rfl, by decide +kernel, rfl, by decide +kernel, by decide +kernel⟩
  refine df_fn G S (fun vs H Q E ⟨K, v, a, u, b, e, _⟩ => by rw [e]; rfl) ?_
  rintro X _ H Q E f cdv A outer s rfl hr ⟨K, vl, ls, vx, x, rfl, le, h1, h2, ⟨hz, p0, p1⟩, q⟩
  have e0 : ((ls.map fun y => decide (y ≤ x)).map b01).sum - 1 = ixAt ls x := by rw [List.map_map]; rfl
  refine ss_cons (s_asg (r := rInt) (a := ixAt ls x) (i := 2) S.nd rfl (Or.inl rfl) le ((ev_sub (ev_sumB (bs := ls.map fun y => decide (y ≤ x)) rfl T.bSum (ev_cd ?_)) ev_int).of e0) fun va K1 H1 n1 hv1 => ?_)
  · refine cd_l1t (own := [("line", 3)]) (xs := ls) (f := fun y : Int => decide (y ≤ x)) (rr := rBl) rfl S.nd (es_tup (ev_name 0 rfl h1)) (blkOk_by (N := ["lines", "coordinate", "at", "line"]) (sc := defScope stIndexOf) (by decide +kernel)) (fun _ _ _ _ _ => pg_name (i := 3) S.nd rfl (Or.inl rfl)) (Nat.le_trans hz (by decide)) ?_
    exact fun i y K2 z ea l2 hy => ⟨_, gd_name, wipe_t (by decide), fun s H0 C cl fp => ev_le (ev_name 3 rfl hy) (ev_name 1 rfl (rInt.mono l2 h2))⟩
  · have c1 : decide ((0 : Int) ≤ ixAt ls x) = true := decide_eq_true p0
    have c2 : decide (ixAt ls x < (ls.length : Int) - 1) = true := decide_eq_true p1
    refine ss_one (s_ret (r := rInt) (a := ixAt ls x) n1.in_ (ev_ifexp (b := true) (((et_chain2 (p1 := fun i j => decide (i ≤ j)) (p2 := fun i j => decide (i < j)) op_le op_lt ev_int (ev_name 2 rfl hv1) (ev_sub (ev_lenT T.bLen (ev_name 0 rfl ((rTupL F rInt).mono n1.le h1))) ev_int)).of (by rw [c1, c2]; rfl))) (fun _ => ev_name 2 rfl hv1) fun e => Bool.noConfusion e) fun v K' H' n hv => q _ K' H' (n1.trans n) hv)
/-- product_of -/
def big : Int := 2 ^ 60
theorem df_product (G : FnF F mg "product_of" stProduct ["triple"]) : Df P w F mg base 1 "product_of" (sp1 rCell rInt (fun c => CMul c.1 c.2.1 ∧ CMul (c.1 * c.2.1) c.2.2) fun c => c.1 * c.2.1 * c.2.2) := by
  have S : FnScope ["triple"] ["triple"] (defScope stProduct) := ⟨rfl, rfl, rfl, by decide +kernel, rfl, by decide +kernel, by decide +kernel⟩
  refine df_fn G S (fun vs H Q E ⟨K, v, a, e, _⟩ => by rw [e]; rfl) ?_
  rintro X _ H Q E f cdv A outer s rfl hr ⟨K, v, c, rfl, l, h1, ⟨m1, m2⟩, q⟩
  exact ss_one (s_ret (r := rInt) (a := c.1 * c.2.1 * c.2.2) l (ev_mul m2 (ev_mul m1 (ev_cix (j := 0) (ev_name 0 rfl h1) ev_int (by decide)) (ev_cix (j := 1) (ev_name 0 rfl h1) ev_int (by decide))) (ev_cix (j := 2) (ev_name 0 rfl h1) ev_int (by decide))) fun v K' H' n hv => q _ K' H' n hv)
end
end SN
end TQZ

section TQO
set_option Elab.async false
set_option linter.all false
set_option maxRecDepth 100000
set_option maxHeartbeats 4000017
/-! QO: enumerate over zip of two lists, the pair unpacked in the target. -/
namespace SN
open PySem
open PySem.Sem (wp)
section
variable {prog : Program} {w : World} {A : Around} {E : Value → Shared → Prop} {s : Shared}
theorem alive_any {a : Addr} {Q : Option Obj → Shared → Prop} (h : Q (s.heap.get? a) s) : wpAny (model prog w) A (loadIfAlive a) Q E s := fun Γ p hΓ => by
  unfold loadIfAlive
  rw [Sem.wp_loadIfAlive]
  exact wpAny_pure h Γ p hΓ
/-- a zip object in any state of its own tuple -/
abbrev ZipAt (h : Heap) (z TI TO : Addr) (f0 f1 : Value) : Prop := h.get? z = some { cls := .type "zip", dict := none, data := .fields #[f0, f1, .bool false, .ref TI, .ref TO], slots := #[] }
/-- the two draws behind a free tuple -/
theorem zz_free {z TI TO i1 i2 l1 l2 : Addr} {f0 f1 : Value} {k1 k2 : Nat} {xs ys : Array Value} {x y a b : Value} {Q : Value → Shared → Prop} (D : ZipApart z TI TO i1 i2 l1 l2) (hfree : ∀ (Q' : Bool → Shared → Prop), Q' true s → wpAny (model prog w) A (Builtin.SmallTypes.ownedTupleIsFree (.ref z)) Q' E s)
    (hz : ZipAt s.heap z TI TO f0 f1) (hTI : IsPair s.heap TI (.ref i1) (.ref i2)) (hTO : IsPair s.heap TO a b)
    (h1 : s.heap.IsListIter i1 l1 k1) (h2 : s.heap.IsListIter i2 l2 k2) (hl1 : s.heap.IsList l1 xs) (hl2 : s.heap.IsList l2 ys) (hx : xs[k1]? = some x) (hy : ys[k2]? = some y)
    (hQ : ∀ h', ZipAt h' z TI TO (rawInt s.heap.objs.size) (.bool false) → IsPair h' TO x y → h'.IsListIter i1 l1 (k1 + 1) → h'.IsListIter i2 l2 (k2 + 1) → IsPair h' s.heap.objs.size x y → h'.objs.size = s.heap.objs.size + 1 →
      (∀ c o, c ≠ z → c ≠ TO → c ≠ i1 → c ≠ i2 → s.heap.get? c = some o → h'.get? c = some o) → Q (.ref s.heap.objs.size) { s with heap := h' }) :
    wpAny (model prog w) A (Builtin.«zip.__next__» ⟨[.ref z], []⟩) (fun fin s' => ∃ v, fin = .done (.ret v) ∧ Q v s') E s := by
  show wpAny _ _ (field (.ref z) 2 >>= _) _ _ _
  refine wpAny_bind (wpAny_field hz rfl (x := .bool false) rfl ?_)
  show wpAny _ _ (field (.ref z) 3 >>= _) _ _ _
  refine wpAny_bind (wpAny_field hz rfl (x := .ref TI) rfl ?_)
  refine wpAny_bind (wpAny_seqItems hTI rfl ?_)
  show wpAny _ _ (Builtin.SmallTypes.ownedTupleIsFree (.ref z) >>= _) _ _ _
  refine wpAny_bind (hfree _ ?_)
  simp only [if_true]
  refine wpAny_bind (wpAny_rule ?_)
  refine wpAny_bind (wpAny_field hz rfl (x := .ref TO) rfl ?_)
  refine wpAny_bind (wpAny_setField_rec hz (by simp) fun g1 z1 s1 => ?_)
  replace z1 : ZipAt g1 z TI TO .ellipsis f1 := z1
  refine wpAny_bind ?_
  simp only [List.zipIdx_cons, List.zipIdx_nil, List.forIn_cons, List.forIn_nil]
  refine wpAny_bind (wpAny_bind (wpAny_onRaise ?_))
  show wpAny _ _ (Builtin.SmallTypes.nextOf (.ref i1) >>= _) _ _ _
  refine wpAny_bind (wpAny_nextOf_list_item (h1.extBut s1.extBut D.i1z) (hl1.extBut s1.extBut D.l1z) hx fun g2 j1 s2 => wpAny_pure ?_)
  have t2 : IsPair g2 TO a b := s2.extBut _ _ D.TOi1 (s1.extBut _ _ D.TOz hTO)
  refine wpAny_bind (wpAny_seqItems t2 rfl ?_)
  refine wpAny_bind (wpAny_updateSeq_pair t2 fun g3 t3 s3 => ?_)
  replace t3 : IsPair g3 TO x b := t3
  refine wpAny_bind (wpAny_letGo (wpAny_pure ?_))
  refine wpAny_bind (wpAny_bind (wpAny_onRaise ?_))
  show wpAny _ _ (Builtin.SmallTypes.nextOf (.ref i2) >>= _) _ _ _
  refine wpAny_bind (wpAny_nextOf_list_item (((h2.extBut s1.extBut D.i2z).extBut s2.extBut D.i12.symm).extBut s3.extBut D.TOi2.symm) (((hl2.extBut s1.extBut D.l2z).extBut s2.extBut D.l2i1).extBut s3.extBut D.l2TO) hy fun g4 j2 s4 => wpAny_pure ?_)
  have t4 : IsPair g4 TO x b := s4.extBut _ _ D.TOi2 t3
  refine wpAny_bind (wpAny_seqItems t4 rfl ?_)
  refine wpAny_bind (wpAny_updateSeq_pair t4 fun g5 t5 s5 => ?_)
  replace t5 : IsPair g5 TO x y := t5
  refine wpAny_bind (wpAny_letGo (wpAny_pure (wpAny_pure ?_)))
  refine wpAny_bind (wpAny_seqItems t5 rfl ?_)
  refine wpAny_bind (wpAny_newTuple ?_)
  have es : g5.objs.size = s.heap.objs.size := by rw [s5.1, s4.1, s3.1, s2.1, s1.1]
  have z5 : ZipAt g5 z TI TO .ellipsis f1 := s5.extBut _ _ D.TOz.symm (s4.extBut _ _ D.i2z.symm (s3.extBut _ _ D.TOz.symm (s2.extBut _ _ D.i1z.symm z1)))
  have k5 : ∀ c o, c ≠ z → c ≠ TO → c ≠ i1 → c ≠ i2 → s.heap.get? c = some o → g5.get? c = some o := fun c o c1 c2 c3 c4 e => s5.extBut _ _ c2 (s4.extBut _ _ c4 (s3.extBut _ _ c2 (s2.extBut _ _ c3 (s1.extBut _ _ c1 e))))
  have a1 : g5.IsListIter i1 l1 (k1 + 1) := ((j1.extBut s3.extBut D.TOi1.symm).extBut s4.extBut D.i12).extBut s5.extBut D.TOi1.symm
  have a2 : g5.IsListIter i2 l2 (k2 + 1) := j2.extBut s5.extBut D.TOi2.symm
  have zl : z < g5.objs.size := Heap.lt_size z5
  show wpAny _ _ (Builtin.SmallTypes.ownedTupleHandOut (.ref z) (.ref g5.objs.size) >>= _) _ _ _
  refine wpAny_bind ?_
  unfold Builtin.SmallTypes.ownedTupleHandOut
  have z6 : ZipAt (g5.push { cls := .type "tuple", data := .seq #[x, y] }) z TI TO .ellipsis f1 := Heap.get?_push_of_some _ z5
  refine wpAny_bind (wpAny_setField_rec z6 (by simp) fun g7 z7 s7 => ?_)
  replace z7 : ZipAt g7 z TI TO (rawInt g5.objs.size) f1 := z7
  refine wpAny_setField_rec z7 (by simp) fun g8 z8 s8 => ?_
  replace z8 : ZipAt g8 z TI TO (rawInt g5.objs.size) (.bool false) := z8
  have up : ∀ c o, c ≠ z → g5.get? c = some o → g8.get? c = some o := fun c o c1 e => s8.extBut _ _ c1 (s7.extBut _ _ c1 (Heap.get?_push_of_some _ e))
  have tt8 : IsPair g8 g5.objs.size x y := s8.extBut _ _ (Nat.ne_of_gt zl) (s7.extBut _ _ (Nat.ne_of_gt zl) (Heap.get?_push_size _ rfl))
  have e8 : g8.objs.size = g5.objs.size + 1 := by rw [s8.1, s7.1, Heap.size_push]
  rw [es] at z8 tt8 e8
  refine wpAny_pure ⟨_, rfl, ?_⟩
  show Q (.ref g5.objs.size) _
  rw [es]
  exact hQ g8 z8 (up _ _ D.TOz t5) (a1.at fun o e => up _ o D.i1z e) (a2.at fun o e => up _ o D.i2z e) tt8 e8 fun c o c1 c2 c3 c4 e => up c o c1 (k5 c o c1 c2 c3 c4 e)
/-- the two draws while the tuple is in use -/
theorem zz_busy {z TI TO i1 i2 l1 l2 : Addr} {f0 f1 : Value} {k1 k2 : Nat} {xs ys : Array Value} {x y a b : Value} {Q : Value → Shared → Prop} (D : ZipApart z TI TO i1 i2 l1 l2)
    (hbusy : ∀ (Q' : Bool → Shared → Prop), (∀ h', ZipAt h' z TI TO f0 (.bool true) → Heap.SameBut z s.heap h' → Q' false { s with heap := h' }) → wpAny (model prog w) A (Builtin.SmallTypes.ownedTupleIsFree (.ref z)) Q' E s)
    (hz : ZipAt s.heap z TI TO f0 f1) (hTI : IsPair s.heap TI (.ref i1) (.ref i2)) (hTO : IsPair s.heap TO a b)
    (h1 : s.heap.IsListIter i1 l1 k1) (h2 : s.heap.IsListIter i2 l2 k2) (hl1 : s.heap.IsList l1 xs) (hl2 : s.heap.IsList l2 ys) (hx : xs[k1]? = some x) (hy : ys[k2]? = some y)
    (hQ : ∀ h', ZipAt h' z TI TO f0 (.bool true) → IsPair h' TO a b → h'.IsListIter i1 l1 (k1 + 1) → h'.IsListIter i2 l2 (k2 + 1) → IsPair h' s.heap.objs.size x y → h'.objs.size = s.heap.objs.size + 1 →
      (∀ c o, c ≠ z → c ≠ TO → c ≠ i1 → c ≠ i2 → s.heap.get? c = some o → h'.get? c = some o) → Q (.ref s.heap.objs.size) { s with heap := h' }) :
    wpAny (model prog w) A (Builtin.«zip.__next__» ⟨[.ref z], []⟩) (fun fin s' => ∃ v, fin = .done (.ret v) ∧ Q v s') E s := by
  show wpAny _ _ (field (.ref z) 2 >>= _) _ _ _
  refine wpAny_bind (wpAny_field hz rfl (x := .bool false) rfl ?_)
  show wpAny _ _ (field (.ref z) 3 >>= _) _ _ _
  refine wpAny_bind (wpAny_field hz rfl (x := .ref TI) rfl ?_)
  refine wpAny_bind (wpAny_seqItems hTI rfl ?_)
  show wpAny _ _ (Builtin.SmallTypes.ownedTupleIsFree (.ref z) >>= _) _ _ _
  refine wpAny_bind (hbusy _ fun g1 z1 s1 => ?_)
  simp only [Bool.false_eq_true, if_false]
  have e1 : g1.objs.size = s.heap.objs.size := s1.1
  refine wpAny_bind ?_
  rw [← Array.forIn_toList]
  simp only [List.forIn_cons, List.forIn_nil]
  refine wpAny_bind (wpAny_bind (wpAny_holding ?_))
  show wpAny _ _ (Builtin.SmallTypes.nextOf (.ref i1) >>= _) _ _ _
  refine wpAny_bind (wpAny_nextOf_list_item (h1.extBut s1.extBut D.i1z) (hl1.extBut s1.extBut D.l1z) hx fun g2 j1 s2 => wpAny_pure ?_)
  refine wpAny_pure ?_
  refine wpAny_bind (wpAny_bind (wpAny_holding ?_))
  show wpAny _ _ (Builtin.SmallTypes.nextOf (.ref i2) >>= _) _ _ _
  refine wpAny_bind (wpAny_nextOf_list_item ((h2.extBut s1.extBut D.i2z).extBut s2.extBut D.i12.symm) ((hl2.extBut s1.extBut D.l2z).extBut s2.extBut D.l2i1) hy fun g3 j2 s3 => wpAny_pure ?_)
  refine wpAny_pure ?_
  refine wpAny_pure ?_
  show wpAny _ _ (newTuple [x, y] >>= fun t => ret t) _ _ _
  refine wpAny_bind (wpAny_newTuple ?_)
  have e3 : g3.objs.size = s.heap.objs.size := by rw [s3.1, s2.1, s1.1]
  have z3 : ZipAt g3 z TI TO f0 (.bool true) := s3.extBut _ _ D.i2z.symm (s2.extBut _ _ D.i1z.symm z1)
  have k3 : ∀ c o, c ≠ z → c ≠ i1 → c ≠ i2 → s.heap.get? c = some o → g3.get? c = some o := fun c o c1 c2 c3 e => s3.extBut _ _ c3 (s2.extBut _ _ c2 (s1.extBut _ _ c1 e))
  have up : ∀ c o, g3.get? c = some o → (g3.push { cls := .type "tuple", data := .seq #[x, y] }).get? c = some o := fun c o e => Heap.get?_push_of_some _ e
  have tn : IsPair (g3.push { cls := .type "tuple", data := .seq #[x, y] }) g3.objs.size x y := Heap.get?_push_size _ rfl
  refine wpAny_pure ⟨_, rfl, ?_⟩
  show Q (.ref g3.objs.size) _
  rw [e3] at tn ⊢
  refine hQ _ (up _ _ z3) (up _ _ (k3 TO _ D.TOz D.TOi1 D.TOi2 hTO)) ((j1.extBut s3.extBut D.i12).at fun o e => up _ o e) (j2.at fun o e => up _ o e) tn (by rw [Heap.size_push, e3]) fun c o c1 _ c3 c4 e => up c o (k3 c o c1 c3 c4 e)
/-- what may stand in a zip's first two places -/
def ZOk (f0 f1 : Value) : Prop := (f0 = .none ∨ ∃ T : Nat, f0 = rawInt T) ∧ ((f1 == .bool true) = true → f1 = .bool true)
theorem free_none {z TI TO : Addr} {f1 : Value} (hz : ZipAt s.heap z TI TO .none f1) (Q' : Bool → Shared → Prop) (h : Q' true s) : wpAny (model prog w) A (Builtin.SmallTypes.ownedTupleIsFree (.ref z)) Q' E s := by
  unfold Builtin.SmallTypes.ownedTupleIsFree
  exact wpAny_bind (wpAny_field hz rfl (x := .none) rfl (wpAny_pure h))
theorem free_gone {z TI TO : Addr} {f1 : Value} {T : Nat} (hz : ZipAt s.heap z TI TO (rawInt T) f1) (hT : s.heap.get? T = none) (Q' : Bool → Shared → Prop) (h : Q' true s) : wpAny (model prog w) A (Builtin.SmallTypes.ownedTupleIsFree (.ref z)) Q' E s := by
  unfold Builtin.SmallTypes.ownedTupleIsFree
  refine wpAny_bind (wpAny_field hz rfl (x := rawInt T) rfl ?_)
  show wpAny _ _ (loadIfAlive ((T : Int).toNat) >>= _) _ _ _
  refine wpAny_bind (alive_any ?_)
  have e : s.heap.get? ((T : Int).toNat) = none := by simpa using hT
  rw [e]
  exact wpAny_pure h
theorem busy_in {z TI TO : Addr} {f1 : Value} {T : Nat} {o : Obj} (hz : ZipAt s.heap z TI TO (rawInt T) f1) (hT : s.heap.get? T = some o) (hf : (f1 == .bool true) = true → f1 = .bool true) (Q' : Bool → Shared → Prop)
    (h : ∀ h', ZipAt h' z TI TO (rawInt T) (.bool true) → Heap.SameBut z s.heap h' → Q' false { s with heap := h' }) : wpAny (model prog w) A (Builtin.SmallTypes.ownedTupleIsFree (.ref z)) Q' E s := by
  unfold Builtin.SmallTypes.ownedTupleIsFree
  refine wpAny_bind (wpAny_field hz rfl (x := rawInt T) rfl ?_)
  show wpAny _ _ (loadIfAlive ((T : Int).toNat) >>= _) _ _ _
  refine wpAny_bind (alive_any ?_)
  have e : s.heap.get? ((T : Int).toNat) = some o := by simpa using hT
  rw [e]
  show wpAny _ _ (field (.ref z) 1 >>= _) _ _ _
  refine wpAny_bind (wpAny_field hz rfl (x := f1) rfl ?_)
  by_cases c : (f1 == .bool true) = true
  · have e1 : f1 = .bool true := hf c
    subst e1
    have e2 : ¬ ((Value.bool true != Value.bool true) = true) := by simp
    rw [if_neg e2]
    exact wpAny_pure (h s.heap hz ⟨rfl, fun _ _ => rfl⟩)
  · have e2 : (f1 != .bool true) = true := by simpa [bne] using c
    rw [if_pos e2]
    exact wpAny_bind (wpAny_setField_rec hz (by simp) fun h' z' s' => wpAny_pure (h h' z' s'))
/-- what may stand there, as a state -/
def ZSt (h : Heap) (z TI TO i1 i2 l1 l2 : Addr) (k : Nat) : Prop := (∃ f0 f1, ZipAt h z TI TO f0 f1 ∧ ZOk f0 f1) ∧ IsPair h TI (.ref i1) (.ref i2) ∧ (∃ a b, IsPair h TO a b) ∧ h.IsListIter i1 l1 k ∧ h.IsListIter i2 l2 k
theorem bt_ok : (Value.bool true == Value.bool true) = true → Value.bool true = Value.bool true := fun _ => rfl
theorem bf_ok : (Value.bool false == Value.bool true) = true → Value.bool false = Value.bool true := fun h => by simp at h
theorem zz_next {z TI TO i1 i2 l1 l2 : Addr} {k : Nat} {xs ys : Array Value} {x y : Value} {Q : Value → Shared → Prop} (D : ZipApart z TI TO i1 i2 l1 l2) (st : ZSt s.heap z TI TO i1 i2 l1 l2 k) (hl1 : s.heap.IsList l1 xs) (hl2 : s.heap.IsList l2 ys) (hx : xs[k]? = some x) (hy : ys[k]? = some y)
    (hQ : ∀ h', ZSt h' z TI TO i1 i2 l1 l2 (k + 1) → IsPair h' s.heap.objs.size x y → h'.objs.size = s.heap.objs.size + 1 →
      (∀ c o, c ≠ z → c ≠ TO → c ≠ i1 → c ≠ i2 → s.heap.get? c = some o → h'.get? c = some o) → Q (.ref s.heap.objs.size) { s with heap := h' }) :
    wpAny (model prog w) A (Builtin.«zip.__next__» ⟨[.ref z], []⟩) (fun fin s' => ∃ v, fin = .done (.ret v) ∧ Q v s') E s := by
  obtain ⟨⟨f0, f1, hz, hf0, hf1⟩, hTI, ⟨a, b, hTO⟩, h1, h2⟩ := st
  have fr : (∀ (Q' : Bool → Shared → Prop), Q' true s → wpAny (model prog w) A (Builtin.SmallTypes.ownedTupleIsFree (.ref z)) Q' E s) → wpAny (model prog w) A (Builtin.«zip.__next__» ⟨[.ref z], []⟩) (fun fin s' => ∃ v, fin = .done (.ret v) ∧ Q v s') E s := fun free =>
    zz_free D free hz hTI hTO h1 h2 hl1 hl2 hx hy fun h' z' t' j1 j2 n' e' k' => hQ h' ⟨⟨_, _, z', .inr ⟨_, rfl⟩, bf_ok⟩, k' TI _ D.TIz D.TITO D.TIi1 D.TIi2 hTI, ⟨x, y, t'⟩, j1, j2⟩ n' e' k'
  rcases hf0 with rfl | ⟨T, rfl⟩
  · exact fr fun Q' q => free_none hz Q' q
  · cases e : s.heap.get? T with
    | none => exact fr fun Q' q => free_gone hz e Q' q
    | some o => exact zz_busy D (fun Q' q => busy_in hz e hf1 Q' q) hz hTI hTO h1 h2 hl1 hl2 hx hy fun h' z' t' j1 j2 n' e' k' => hQ h' ⟨⟨_, _, z', .inr ⟨_, rfl⟩, bt_ok⟩, k' TI _ D.TIz D.TITO D.TIi1 D.TIi2 hTI, ⟨a, b, t'⟩, j1, j2⟩ n' e' k'
theorem zz_endF {z TI TO i1 i2 l1 l2 : Addr} {f0 f1 : Value} {k1 k2 : Nat} {xs ys : Array Value} {a b : Value} {Q : Fin → Shared → Prop} (hh : A.handled = none) (D : ZipApart z TI TO i1 i2 l1 l2) (hfree : ∀ (Q' : Bool → Shared → Prop), Q' true s → wpAny (model prog w) A (Builtin.SmallTypes.ownedTupleIsFree (.ref z)) Q' E s)
    (hz : ZipAt s.heap z TI TO f0 f1) (hTI : IsPair s.heap TI (.ref i1) (.ref i2)) (hTO : IsPair s.heap TO a b)
    (h1 : s.heap.IsListIter i1 l1 k1) (h2 : s.heap.IsListIter i2 l2 k2) (hl1 : s.heap.IsList l1 xs) (hl2 : s.heap.IsList l2 ys) (hend : xs[k1]? = none ∨ ys[k2]? = none)
    (hE : ∀ h' e, (∀ c o, c ≠ z → c ≠ TO → c ≠ i1 → c ≠ i2 → s.heap.get? c = some o → h'.get? c = some o) → (∃ o, h'.get? e = some o ∧ o.cls = .type "StopIteration") → E (.ref e) { s with heap := h' }) :
    wpAny (model prog w) A (Builtin.«zip.__next__» ⟨[.ref z], []⟩) Q E s := by
  show wpAny _ _ (field (.ref z) 2 >>= _) _ _ _
  refine wpAny_bind (wpAny_field hz rfl (x := .bool false) rfl ?_)
  show wpAny _ _ (field (.ref z) 3 >>= _) _ _ _
  refine wpAny_bind (wpAny_field hz rfl (x := .ref TI) rfl ?_)
  refine wpAny_bind (wpAny_seqItems hTI rfl ?_)
  show wpAny _ _ (Builtin.SmallTypes.ownedTupleIsFree (.ref z) >>= _) _ _ _
  refine wpAny_bind (hfree _ ?_)
  simp only [if_true]
  refine wpAny_bind (wpAny_rule ?_)
  refine wpAny_bind (wpAny_field hz rfl (x := .ref TO) rfl ?_)
  refine wpAny_bind (wpAny_setField_rec hz (by simp) fun g1 z1 s1 => ?_)
  replace z1 : ZipAt g1 z TI TO .ellipsis f1 := z1
  refine wpAny_bind ?_
  simp only [List.zipIdx_cons, List.zipIdx_nil, List.forIn_cons, List.forIn_nil]
  refine wpAny_bind (wpAny_bind (wpAny_onRaise ?_))
  show wpAny _ _ (Builtin.SmallTypes.nextOf (.ref i1) >>= _) _ _ _
  cases hx : xs[k1]? with
  | none =>
    refine wpAny_bind (wpAny_nextOf_list_end hh (h1.extBut s1.extBut D.i1z) (hl1.extBut s1.extBut D.l1z) hx fun g2 e s2 he => ?_)
    obtain ⟨oe, hoe, hce⟩ := he
    have z2 : ZipAt g2 z TI TO .ellipsis f1 := s2 _ _ D.i1z.symm z1
    have ne : e ≠ z := fun q => by subst q; rw [z2] at hoe; cases hoe; simp at hce
    exact wpAny_setField_rec z2 (by simp) fun g3 _ s3 => hE g3 e (fun c o c1 _ c3 _ q => s3.extBut _ _ c1 (s2 _ _ c3 (s1.extBut _ _ c1 q))) ⟨oe, s3.extBut _ _ ne hoe, hce⟩
  | some x =>
    have hy : ys[k2]? = none := by
      rcases hend with q | q
      · rw [hx] at q; cases q
      · exact q
    refine wpAny_bind (wpAny_nextOf_list_item (h1.extBut s1.extBut D.i1z) (hl1.extBut s1.extBut D.l1z) hx fun g2 j1 s2 => wpAny_pure ?_)
    have t2 : IsPair g2 TO a b := s2.extBut _ _ D.TOi1 (s1.extBut _ _ D.TOz hTO)
    refine wpAny_bind (wpAny_seqItems t2 rfl ?_)
    refine wpAny_bind (wpAny_updateSeq_pair t2 fun g3 t3 s3 => ?_)
    refine wpAny_bind (wpAny_letGo (wpAny_pure ?_))
    refine wpAny_bind (wpAny_bind (wpAny_onRaise ?_))
    show wpAny _ _ (Builtin.SmallTypes.nextOf (.ref i2) >>= _) _ _ _
    refine wpAny_bind (wpAny_nextOf_list_end hh (((h2.extBut s1.extBut D.i2z).extBut s2.extBut D.i12.symm).extBut s3.extBut D.TOi2.symm) (((hl2.extBut s1.extBut D.l2z).extBut s2.extBut D.l2i1).extBut s3.extBut D.l2TO) hy fun g4 e s4 he => ?_)
    obtain ⟨oe, hoe, hce⟩ := he
    have z4 : ZipAt g4 z TI TO .ellipsis f1 := s4 _ _ D.i2z.symm (s3.extBut _ _ D.TOz.symm (s2.extBut _ _ D.i1z.symm z1))
    have ne : e ≠ z := fun q => by subst q; rw [z4] at hoe; cases hoe; simp at hce
    exact wpAny_setField_rec z4 (by simp) fun g5 _ s5 => hE g5 e (fun c o c1 c2 c3 c4 q => s5.extBut _ _ c1 (s4 _ _ c4 (s3.extBut _ _ c2 (s2.extBut _ _ c3 (s1.extBut _ _ c1 q))))) ⟨oe, s5.extBut _ _ ne hoe, hce⟩
theorem zz_endB {z TI TO i1 i2 l1 l2 : Addr} {f0 f1 : Value} {k1 k2 : Nat} {xs ys : Array Value} {Q : Fin → Shared → Prop} (hh : A.handled = none) (D : ZipApart z TI TO i1 i2 l1 l2)
    (hbusy : ∀ (Q' : Bool → Shared → Prop), (∀ h', ZipAt h' z TI TO f0 (.bool true) → Heap.SameBut z s.heap h' → Q' false { s with heap := h' }) → wpAny (model prog w) A (Builtin.SmallTypes.ownedTupleIsFree (.ref z)) Q' E s)
    (hz : ZipAt s.heap z TI TO f0 f1) (hTI : IsPair s.heap TI (.ref i1) (.ref i2))
    (h1 : s.heap.IsListIter i1 l1 k1) (h2 : s.heap.IsListIter i2 l2 k2) (hl1 : s.heap.IsList l1 xs) (hl2 : s.heap.IsList l2 ys) (hend : xs[k1]? = none ∨ ys[k2]? = none)
    (hE : ∀ h' e, (∀ c o, c ≠ z → c ≠ TO → c ≠ i1 → c ≠ i2 → s.heap.get? c = some o → h'.get? c = some o) → (∃ o, h'.get? e = some o ∧ o.cls = .type "StopIteration") → E (.ref e) { s with heap := h' }) :
    wpAny (model prog w) A (Builtin.«zip.__next__» ⟨[.ref z], []⟩) Q E s := by
  show wpAny _ _ (field (.ref z) 2 >>= _) _ _ _
  refine wpAny_bind (wpAny_field hz rfl (x := .bool false) rfl ?_)
  show wpAny _ _ (field (.ref z) 3 >>= _) _ _ _
  refine wpAny_bind (wpAny_field hz rfl (x := .ref TI) rfl ?_)
  refine wpAny_bind (wpAny_seqItems hTI rfl ?_)
  show wpAny _ _ (Builtin.SmallTypes.ownedTupleIsFree (.ref z) >>= _) _ _ _
  refine wpAny_bind (hbusy _ fun g1 z1 s1 => ?_)
  simp only [Bool.false_eq_true, if_false]
  refine wpAny_bind ?_
  rw [← Array.forIn_toList]
  simp only [List.forIn_cons, List.forIn_nil]
  refine wpAny_bind (wpAny_bind (wpAny_holding ?_))
  show wpAny _ _ (Builtin.SmallTypes.nextOf (.ref i1) >>= _) _ _ _
  cases hx : xs[k1]? with
  | none =>
    exact wpAny_bind (wpAny_nextOf_list_end hh (h1.extBut s1.extBut D.i1z) (hl1.extBut s1.extBut D.l1z) hx fun g2 e s2 he => hE g2 e (fun c o c1 _ c3 _ q => s2 _ _ c3 (s1.extBut _ _ c1 q)) he)
  | some x =>
    have hy : ys[k2]? = none := by
      rcases hend with q | q
      · rw [hx] at q; cases q
      · exact q
    refine wpAny_bind (wpAny_nextOf_list_item (h1.extBut s1.extBut D.i1z) (hl1.extBut s1.extBut D.l1z) hx fun g2 j1 s2 => wpAny_pure ?_)
    refine wpAny_pure ?_
    refine wpAny_bind (wpAny_bind (wpAny_holding ?_))
    show wpAny _ _ (Builtin.SmallTypes.nextOf (.ref i2) >>= _) _ _ _
    exact wpAny_bind (wpAny_nextOf_list_end hh ((h2.extBut s1.extBut D.i2z).extBut s2.extBut D.i12.symm) ((hl2.extBut s1.extBut D.l2z).extBut s2.extBut D.l2i1) hy fun g3 e s3 he => hE g3 e (fun c o c1 _ c3 c4 q => s3 _ _ c4 (s2.extBut _ _ c3 (s1.extBut _ _ c1 q))) he)
theorem zz_end {z TI TO i1 i2 l1 l2 : Addr} {k : Nat} {xs ys : Array Value} {Q : Fin → Shared → Prop} (hh : A.handled = none) (D : ZipApart z TI TO i1 i2 l1 l2) (st : ZSt s.heap z TI TO i1 i2 l1 l2 k) (hl1 : s.heap.IsList l1 xs) (hl2 : s.heap.IsList l2 ys) (hend : xs[k]? = none ∨ ys[k]? = none)
    (hE : ∀ h' e, (∀ c o, c ≠ z → c ≠ TO → c ≠ i1 → c ≠ i2 → s.heap.get? c = some o → h'.get? c = some o) → (∃ o, h'.get? e = some o ∧ o.cls = .type "StopIteration") → E (.ref e) { s with heap := h' }) :
    wpAny (model prog w) A (Builtin.«zip.__next__» ⟨[.ref z], []⟩) Q E s := by
  obtain ⟨⟨f0, f1, hz, hf0, hf1⟩, hTI, ⟨a, b, hTO⟩, h1, h2⟩ := st
  rcases hf0 with rfl | ⟨T, rfl⟩
  · exact zz_endF hh D (fun Q' q => free_none hz Q' q) hz hTI hTO h1 h2 hl1 hl2 hend hE
  · cases e : s.heap.get? T with
    | none => exact zz_endF hh D (fun Q' q => free_gone hz e Q' q) hz hTI hTO h1 h2 hl1 hl2 hend hE
    | some o => exact zz_endB hh D (fun Q' q => busy_in hz e hf1 Q' q) hz hTI h1 h2 hl1 hl2 hend hE
end
end SN
namespace SN
open PySem
open PySem.Sem (wp)
section
variable {prog : Program} {w : World} {A : Around} {E : Value → Shared → Prop} {s : Shared}
theorem ZSt.at {h h' : Heap} {z TI TO i1 i2 l1 l2 : Addr} {k : Nat} (st : ZSt h z TI TO i1 i2 l1 l2 k) (kp : ∀ c ∈ [z, TI, TO, i1, i2], ∀ o, h.get? c = some o → h'.get? c = some o) : ZSt h' z TI TO i1 i2 l1 l2 k := by
  obtain ⟨⟨f0, f1, hz, hf⟩, hTI, ⟨a, b, hTO⟩, h1, h2⟩ := st
  exact ⟨⟨f0, f1, kp z (by simp) _ hz, hf⟩, kp TI (by simp) _ hTI, ⟨a, b, kp TO (by simp) _ hTO⟩, h1.at fun o e => kp i1 (by simp) o e, h2.at fun o e => kp i2 (by simp) o e⟩
theorem zz_type {z TI TO i1 i2 l1 l2 : Addr} {k : Nat} (st : ZSt s.heap z TI TO i1 i2 l1 l2 k) : s.TypeIs (.ref z) "zip" := by
  obtain ⟨⟨f0, f1, hz, _⟩, _⟩ := st
  exact ⟨_, hz, rfl⟩
theorem nx_zz {z TI TO i1 i2 l1 l2 : Addr} {k : Nat} {xs ys : Array Value} {x y : Value} {Q : Value → Shared → Prop} (D : ZipApart z TI TO i1 i2 l1 l2) (st : ZSt s.heap z TI TO i1 i2 l1 l2 k) (hl1 : s.heap.IsList l1 xs) (hl2 : s.heap.IsList l2 ys) (hx : xs[k]? = some x) (hy : ys[k]? = some y)
    (hQ : ∀ h', ZSt h' z TI TO i1 i2 l1 l2 (k + 1) → IsPair h' s.heap.objs.size x y → h'.objs.size = s.heap.objs.size + 1 →
      (∀ c o, c ≠ z → c ≠ TO → c ≠ i1 → c ≠ i2 → s.heap.get? c = some o → h'.get? c = some o) → Q (.ref s.heap.objs.size) { s with heap := h' }) :
    wpAny (model prog w) A (Builtin.SmallTypes.nextOf (.ref z)) Q E s := by
  unfold Builtin.SmallTypes.nextOf
  exact wpAny_bind (wpAny_callSpecial?_slot (name := Str.ofString "__next__") (zz_type st) F.slot_zip_next (wpAny_call_entry F.slot_zip_next (zz_type st) F.entry_zip_next
    (zz_next D st hl1 hl2 hx hy fun h' a1 a2 a3 a4 => wpAny_pure (hQ h' a1 a2 a3 a4)) (F.args_zip_next_1 _)))
theorem nx_zz_end {z TI TO i1 i2 l1 l2 : Addr} {k : Nat} {xs ys : Array Value} {Q : Value → Shared → Prop} (hh : A.handled = none) (D : ZipApart z TI TO i1 i2 l1 l2) (st : ZSt s.heap z TI TO i1 i2 l1 l2 k) (hl1 : s.heap.IsList l1 xs) (hl2 : s.heap.IsList l2 ys) (hend : xs[k]? = none ∨ ys[k]? = none)
    (hE : ∀ h' e, (∀ c o, c ≠ z → c ≠ TO → c ≠ i1 → c ≠ i2 → s.heap.get? c = some o → h'.get? c = some o) → (∃ o, h'.get? e = some o ∧ o.cls = .type "StopIteration") → E (.ref e) { s with heap := h' }) :
    wpAny (model prog w) A (Builtin.SmallTypes.nextOf (.ref z)) Q E s := by
  unfold Builtin.SmallTypes.nextOf
  exact wpAny_bind (wpAny_callSpecial?_slot (name := Str.ofString "__next__") (zz_type st) F.slot_zip_next (wpAny_call_entry F.slot_zip_next (zz_type st) F.entry_zip_next
    (zz_end (A := A.in1) hh D st hl1 hl2 hend fun h' e a1 a2 => hE h' e a1 a2) (F.args_zip_next_1 _)))
/-- enumerate over it -/
theorem en_zz {e z TI TO i1 i2 l1 l2 : Addr} {i : Nat} {xs ys : Array Value} {x y old : Value} {Q : Value → Shared → Prop} (D : ZipApart z TI TO i1 i2 l1 l2) (he : IsEnum s.heap e z i old) (st : ZSt s.heap z TI TO i1 i2 l1 l2 i) (hl1 : s.heap.IsList l1 xs) (hl2 : s.heap.IsList l2 ys) (hx : xs[i]? = some x) (hy : ys[i]? = some y) (hef : e ∉ [z, TI, TO, i1, i2])
    (hQ : ∀ hm h' tk, (∀ c o, c ≠ z → c ≠ TO → c ≠ i1 → c ≠ i2 → s.heap.get? c = some o → hm.get? c = some o) → IsPair hm s.heap.objs.size x y → hm.objs.size = s.heap.objs.size + 1 → ZSt hm z TI TO i1 i2 l1 l2 (i + 1) → (∀ c o, c ≠ e → hm.get? c = some o → h'.get? c = some o) →
      IsEnumOut h' e z ((i : Int) + 1) (.ref s.heap.objs.size) (s.heap.objs.size + 1) → h'.get? (s.heap.objs.size + 1) = some { cls := .type "tuple", data := .seq #[.int i tk, .ref s.heap.objs.size] } → Q (.ref (s.heap.objs.size + 1)) { s with heap := h', toks := tk + 1 }) :
    wpAny (model prog w) A (Builtin.«enumerate.__next__» ⟨[.ref e], []⟩) (fun fin s' => ∃ v, fin = .done (.ret v) ∧ Q v s') E s := by
  obtain ⟨hp, g, d, tk, os⟩ := s
  have nz : e ≠ z := fun q => hef (by simp [q])
  have nTO : e ≠ TO := fun q => hef (by simp [q])
  have n1 : e ≠ i1 := fun q => hef (by simp [q])
  have n2 : e ≠ i2 := fun q => hef (by simp [q])
  show wpAny _ _ (field (.ref e) 2 >>= _) _ _ _
  refine wpAny_bind (wpAny_field he rfl (x := .ref z) rfl ?_)
  refine wpAny_bind (nx_zz D st hl1 hl2 hx hy fun g1 st1 pr1 sz1 k1 => ?_)
  replace k1 : ∀ c o, c ≠ z → c ≠ TO → c ≠ i1 → c ≠ i2 → hp.get? c = some o → g1.get? c = some o := k1
  replace sz1 : g1.objs.size = hp.objs.size + 1 := sz1
  replace pr1 : IsPair g1 hp.objs.size x y := pr1
  have e1 : IsEnum g1 e z i old := k1 _ _ nz nTO n1 n2 he
  show wpAny _ _ (field (.ref e) 3 >>= _) _ _ ⟨g1, g, d, tk, os⟩
  refine wpAny_bind (wpAny_field e1 rfl (x := rawInt i) rfl ?_)
  show wpAny _ _ (field (.ref e) 4 >>= _) _ _ ⟨g1, g, d, tk, os⟩
  refine wpAny_bind (wpAny_field e1 rfl (x := .none) rfl ?_)
  show wpAny _ _ (mkInt i >>= _) _ _ ⟨g1, g, d, tk, os⟩
  refine wpAny_bind (wpAny_mkInt ?_)
  show wpAny _ _ (setField (.ref e) 3 (rawInt ((i : Int) + 1)) >>= _) _ _ ⟨g1, g, d, tk + 1, os⟩
  refine wpAny_bind (wpAny_setField_rec e1 (by simp) fun g2 e2 s2 => ?_)
  replace s2 : Heap.SameBut e g1 g2 := s2
  replace e2 : IsEnum g2 e z ((i : Int) + 1) old := e2
  show wpAny _ _ (setField (.ref e) 4 .none >>= _) _ _ ⟨g2, g, d, tk + 1, os⟩
  refine wpAny_bind (wpAny_setField_rec e2 (by simp) fun g3 e3 s3 => ?_)
  replace s3 : Heap.SameBut e g2 g3 := s3
  replace e3 : IsEnum g3 e z ((i : Int) + 1) old := e3
  show wpAny _ _ (newTuple [.int i tk, .ref hp.objs.size] >>= _) _ _ ⟨g3, g, d, tk + 1, os⟩
  refine wpAny_bind (wpAny_newTuple ?_)
  have sz3 : g3.objs.size = hp.objs.size + 1 := by rw [s3.1, s2.1, sz1]
  have el : e < g3.objs.size := Heap.lt_size e3
  have e4 : IsEnum (g3.push { cls := .type "tuple", data := .seq #[.int i tk, .ref hp.objs.size] }) e z ((i : Int) + 1) old := Heap.get?_push_of_some _ e3
  have t4 : (g3.push { cls := .type "tuple", data := .seq #[.int i tk, .ref hp.objs.size] }).get? g3.objs.size = some { cls := .type "tuple", data := .seq #[.int i tk, .ref hp.objs.size] } := Heap.get?_push_size _ rfl
  have k4 : ∀ c o, c ≠ e → g1.get? c = some o → (g3.push { cls := .type "tuple", data := .seq #[.int i tk, .ref hp.objs.size] }).get? c = some o := fun c o hc q => Heap.get?_push_of_some _ (s3.extBut c o hc (s2.extBut c o hc q))
  show wpAny _ _ (Builtin.SmallTypes.ownedTupleIsFree (.ref e) >>= _) _ _ ⟨_, g, d, tk + 1, os⟩
  generalize g3.push { cls := .type "tuple", data := .seq #[.int i tk, .ref hp.objs.size] } = g4 at e4 t4 k4
  rw [sz3] at t4 el ⊢
  refine wpAny_bind ?_
  unfold Builtin.SmallTypes.ownedTupleIsFree
  refine wpAny_bind (wpAny_field e4 rfl (x := .none) rfl (wpAny_pure ?_))
  simp only [if_true]
  refine wpAny_bind (wpAny_rule ?_)
  refine wpAny_bind (wpAny_field e4 rfl (x := old) rfl ?_)
  refine wpAny_bind (wpAny_setField_rec e4 (by simp) fun g5 e5 s5 => ?_)
  replace s5 : Heap.SameBut e g4 g5 := s5
  replace e5 : IsEnum g5 e z ((i : Int) + 1) (.ref hp.objs.size) := e5
  show wpAny _ _ (Builtin.SmallTypes.ownedTupleHandOut (.ref e) (.ref (hp.objs.size + 1)) >>= _) _ _ ⟨g5, g, d, tk + 1, os⟩
  refine wpAny_bind ?_
  unfold Builtin.SmallTypes.ownedTupleHandOut
  refine wpAny_bind (wpAny_setField_rec e5 (by simp) fun g6 e6 s6 => ?_)
  replace s6 : Heap.SameBut e g5 g6 := s6
  replace e6 : IsEnumOut g6 e z ((i : Int) + 1) (.ref hp.objs.size) (hp.objs.size + 1) := e6
  refine wpAny_setField_rec e6 (by simp) fun g7 e7 s7 => ?_
  replace s7 : Heap.SameBut e g6 g7 := s7
  replace e7 : IsEnumOut g7 e z ((i : Int) + 1) (.ref hp.objs.size) (hp.objs.size + 1) := e7
  have up : ∀ c o, c ≠ e → g4.get? c = some o → g7.get? c = some o := fun c o hc q => s7.extBut c o hc (s6.extBut c o hc (s5.extBut c o hc q))
  refine wpAny_bind (wpAny_letGo (wpAny_pure ⟨_, rfl, hQ g1 g7 tk k1 pr1 sz1 st1 (fun c o hc q => up c o hc (k4 c o hc q)) e7 (up _ _ (Nat.ne_of_gt el) t4)⟩))
end
end SN
end TQO

section TQP
set_option Elab.async false
set_option linter.all false
set_option maxRecDepth 100000
set_option maxHeartbeats 4000017
/-! QP: for i, (a, b) in enumerate(zip(xs, ys)) by data; new_indexes. -/
namespace SN
open PySem PySem.Spec PyProof.Rows L2
def ItEZ (F : PySem.W.Frag) (a b : Addr) : It :=
  ⟨fun i H => ∃ (xs ys : List V) (x y : V), SqL F H a xs ∧ SqL F H b ys ∧ xs[i]? = some x ∧ ys[i]? = some y,
   fun i H v H' => ∃ T1 T2 x y, v = .ref T2 ∧ H T1 = none ∧ H T2 = none ∧ T2 ≠ T1 ∧ H' = upd (upd H T1 (.tup [x, y])) T2 (.tup [.int (i : Nat), .ref T1]) ∧ (∀ xs, SqL F H a xs → xs[i]? = some x) ∧ ∀ ys, SqL F H b ys → ys[i]? = some y,
   fun i H => ∃ xs ys : List V, SqL F H a xs ∧ SqL F H b ys ∧ (xs.length ≤ i ∨ ys.length ≤ i)⟩
theorem turn_EZ {P : Program} {w : World} {F : PySem.W.Frag} {elts : List Expr} {kk : Nat} {tpos : Pos} {a b e z TI TO i1 i2 : Addr} (D : ZipApart z TI TO i1 i2 a b) (hef : e ∉ [z, TI, TO, i1, i2]) :
    Turn P w F (.Tuple elts kk tpos) (ItEZ F a b) [e, z, TI, TO, i1, i2] e (fun i h => (∃ old, IsEnum h e z ((i : Nat) : Int) old) ∧ ZSt h z TI TO i1 i2 a b i) where
  mem := List.mem_cons_self ..
  obj := fun i h st c hc => by
    obtain ⟨⟨old, he⟩, ⟨f0, f1, hz, _⟩, hTI, ⟨x, y, hTO⟩, ⟨o1, e1, _, d1⟩, ⟨o2, e2, _, d2⟩⟩ := st
    simp only [List.mem_cons, List.not_mem_nil, or_false] at hc
    rcases hc with q | q | q | q | q | q <;> rw [q]
    · exact ⟨_, he, fun v q => nomatch q⟩
    · exact ⟨_, hz, fun v q => nomatch q⟩
    · exact ⟨_, hTI, fun v q => nomatch q⟩
    · exact ⟨_, hTO, fun v q => nomatch q⟩
    · exact ⟨o1, e1, fun v q => by rw [d1] at q; cases q⟩
    · exact ⟨o2, e2, fun v q => by rw [d2] at q; cases q⟩
  keep := fun i h h' st k => by
    obtain ⟨⟨old, he⟩, st⟩ := st
    exact ⟨⟨old, k e (List.mem_cons_self ..) _ he⟩, st.at fun c hc o q => k c (List.mem_cons_of_mem _ hc) o q⟩
  item := by
    intro X hP hw hK hc i pins s σ H E I hf st hg
    subst hP hw hK
    obtain ⟨⟨old, he⟩, st⟩ := st
    obtain ⟨xs, ys, x, y, hqx, hqy, hx, hy⟩ := hg
    obtain ⟨its, rv, p, _⟩ := I.list hqx
    obtain ⟨its2, rv2, p2, _⟩ := I.list hqy
    obtain ⟨u, hu, ru⟩ := rv.get hx
    obtain ⟨u2, hu2, ru2⟩ := rv2.get hy
    have nz : e ≠ z := fun q => hef (by simp [q])
    have hel : e < s.heap.objs.size := Heap.lt_size he
    have hT : s.TypeIs (.ref e) "enumerate" := ⟨_, he, rfl⟩
    unfold pyNext
    refine wpAny_bind (wpAny_attempt (wpAny_callSpecial?_slot (name := Str.ofString "__next__") hT PySem.F.slot_enumerate_next
      (wpAny_call_entry PySem.F.slot_enumerate_next hT PySem.F.entry_enumerate_next (en_zz D he st p.isList p2.isList (x := u) (y := u2) (by simpa using hu) (by simpa using hu2) hef fun hm h' tk km pm zm stm kh ho hT2 => wpAny_pure ?_) (PySem.F.args_enumerate_next_1 _))))
    refine ⟨_, rfl, wpAny_letOwnedTupleGo_enum (s := { s with heap := h', toks := tk + 1 }) ho fun h'' he' sb => ?_⟩
    have hn1 : H s.heap.objs.size = none := I.hok.fresh (Nat.le_refl _)
    have hn2 : H (s.heap.objs.size + 1) = none := I.hok.fresh (Nat.le_succ _)
    have new1 : ObjOk X.prog X.w (upd H s.heap.objs.size (.tup [x, y])) hm s.heap.objs.size (.tup [x, y]) := ⟨by show 2 ≤ sizeLine; decide, [u, u2], .cons ru (.cons ru2 .nil), ⟨_, pm, rfl, _, rfl⟩⟩
    have mem4 : ∀ c ∈ [z, TO, i1, i2], c ∈ [e, z, TI, TO, i1, i2] := fun c hcm => by
      simp only [List.mem_cons, List.not_mem_nil, or_false] at hcm ⊢
      rcases hcm with q | q | q | q <;> simp [q]
    have I1 : Inv X pins σ (upd H s.heap.objs.size (.tup [x, y])) { s with heap := hm, toks := s.toks } :=
      I.turnedNew (ch := [z, TO, i1, i2]) (fun c o hb q => km c o (fun q' => hb (by simp [q'])) (fun q' => hb (by simp [q'])) (fun q' => hb (by simp [q'])) (fun q' => hb (by simp [q'])) q) (fun c hcm => hf c (mem4 c hcm)) (Nat.le_refl _) new1
    have kend : ∀ c o, c ≠ e → hm.get? c = some o → h''.get? c = some o := fun c o hb q => (sb.2 c hb).trans (kh c o hb q)
    have hT3 : h''.get? (s.heap.objs.size + 1) = some { cls := .type "tuple", data := .seq #[.int i tk, .ref s.heap.objs.size] } := (sb.2 _ (Nat.ne_of_gt (Nat.lt_succ_of_lt hel))).trans hT2
    have new2 : ObjOk X.prog X.w (upd (upd H s.heap.objs.size (.tup [x, y])) (s.heap.objs.size + 1) (.tup [.int (i : Nat), .ref s.heap.objs.size])) h'' (s.heap.objs.size + 1) (.tup [.int (i : Nat), .ref s.heap.objs.size]) :=
      ⟨by show 2 ≤ sizeLine; decide, [.int i tk, .ref s.heap.objs.size], .cons ⟨_, rfl⟩ (.cons rfl .nil), ⟨_, hT3, rfl, _, rfl⟩⟩
    have fe := hf e (List.mem_cons_self ..)
    have I2 : Inv X pins σ (upd (upd H s.heap.objs.size (.tup [x, y])) (s.heap.objs.size + 1) (.tup [.int (i : Nat), .ref s.heap.objs.size])) { s with heap := h'', toks := tk + 1 } :=
      I1.turnedNew (ch := [e]) (fun c o hb q => kend c o (fun q' => hb (by simp [q'])) q) (fun c hcm => by
        rw [List.mem_singleton.mp hcm]
        exact ⟨by rw [upd_ne (Nat.ne_of_lt hel)]; exact fe.1, fe.2⟩) (by show hm.objs.size ≤ _; rw [zm]; exact Nat.le_refl _) new2
    refine ⟨.ref (s.heap.objs.size + 1), _, I2, rfl, ⟨s.heap.objs.size, s.heap.objs.size + 1, x, y, rfl, hn1, hn2, Nat.succ_ne_self _, rfl, fun l hl => by rw [I.list_inj hl hqx]; exact hx, fun l hl => by rw [I.list_inj hl hqy]; exact hy⟩, ⟨⟨.ref s.heap.objs.size, ?_⟩, ?_⟩, fun c hcm => ?_⟩
    · have e1 : ((i + 1 : Nat) : Int) = (i : Int) + 1 := by omega
      rw [e1]
      exact he'
    · exact stm.at fun c hcm o q => kend c o (fun q' => hef (q' ▸ hcm)) q
    · have lt : c < s.heap.objs.size := by
        obtain ⟨⟨f0, f1, hz, _⟩, hTI, ⟨x', y', hTO⟩, ⟨o1, e1, _⟩, ⟨o2, e2, _⟩⟩ := st
        simp only [List.mem_cons, List.not_mem_nil, or_false] at hcm
        rcases hcm with q | q | q | q | q | q <;> rw [q]
        · exact hel
        · exact Heap.lt_size hz
        · exact Heap.lt_size hTI
        · exact Heap.lt_size hTO
        · exact Heap.lt_size e1
        · exact Heap.lt_size e2
      rw [upd_ne (Nat.ne_of_lt (Nat.lt_succ_of_lt lt)), upd_ne (Nat.ne_of_lt lt)]
      exact (hf c hcm).1
  done := by
    intro X hP hw hK hc i pins s σ H E I hf st hg
    subst hP hw hK
    obtain ⟨⟨old, he⟩, st⟩ := st
    obtain ⟨xs, ys, hqx, hqy, hend⟩ := hg
    obtain ⟨its, rv, p, _⟩ := I.list hqx
    obtain ⟨its2, rv2, p2, _⟩ := I.list hqy
    have l1 := rv.length
    have l2 := rv2.length
    have hen : its.toArray[i]? = none ∨ its2.toArray[i]? = none := by
      rcases hend with q | q
      · exact .inl (by simp; omega)
      · exact .inr (by simp; omega)
    have hT : s.TypeIs (.ref e) "enumerate" := ⟨_, he, rfl⟩
    unfold pyNext
    refine wpAny_bind (wpAny_attempt (wpAny_callSpecial?_slot (name := Str.ofString "__next__") hT PySem.F.slot_enumerate_next
      (wpAny_call_entry PySem.F.slot_enumerate_next hT PySem.F.entry_enumerate_next ?_ (PySem.F.args_enumerate_next_1 _))))
    show wpAny _ _ (field (.ref e) 2 >>= _) _ _ _
    refine wpAny_bind (wpAny_field he rfl (x := .ref z) rfl ?_)
    refine wpAny_bind (nx_zz_end (show X.A.in1.handled = none from I.ok.hd hc) D st p.isList p2.isList hen fun h' x kx hx => ?_)
    obtain ⟨o, ho, hcl⟩ := hx
    refine wpAny_bind (wpAny_isInstance (T := "StopIteration") (b := true) ⟨o, ho, hcl⟩ isSubtype_stop ?_)
    exact wpAny_pure ⟨rfl, I.turnedL (t' := s.toks) (ch := [e, z, TI, TO, i1, i2]) (fun c o hb q => kx c o (fun q' => hb (by simp [q'])) (fun q' => hb (by simp [q'])) (fun q' => hb (by simp [q'])) (fun q' => hb (by simp [q'])) q) hf⟩
  self := fun A i s Q E st h => by
    obtain ⟨⟨_, he⟩, _⟩ := st
    exact wpAny_pyIter_enum he h
/-- enumerate(v), v a zip: it walks the zip itself -/
theorem en_newZ (z TI TO : Addr) (f0 f1 : Value) : Meets (Builtin.«enumerate.__new__» ⟨[.type "enumerate", .ref z], []⟩) (fun _ R s => ZipAt s.heap z TI TO f0 f1 ∧
      R (.ok (.ret (.ref s.heap.objs.size))) { s with heap := s.heap.push { cls := .type "enumerate", data := .fields #[.none, .bool false, .ref z, rawInt 0, .none, .none] } }) :=
  .of_wp fun prog w A R s hs => by
    obtain ⟨hp, gs, dr, tk, os⟩ := s
    obtain ⟨hz, hr⟩ := hs
    have hsub := sub_enumerate
    have hz' : ZipAt hp z TI TO f0 f1 := hz
    have it1 : ∀ {A' : Around} {E : Value → Shared → Prop} {Q : Value → Shared → Prop}, Q (.ref z) ⟨hp, gs, dr, tk, os⟩ → wpAny (model prog w) A' (pyIter (.ref z)) Q E ⟨hp, gs, dr, tk, os⟩ := fun q => by
      have hT : Shared.TypeIs ⟨hp, gs, dr, tk, os⟩ (.ref z) "zip" := ⟨_, hz', rfl⟩
      refine wpAny_pyIter_slot hT F.slot_zip_iter (wpAny_call_entry F.slot_zip_iter hT F.entry_zip_iter ?_ (F.args_zip_iter_1 _))
      exact wpAny_pure ⟨_, rfl, "zip", _, hT, F.slot_zip_next.lookup, q⟩
    wp_walk using it1
    refine wpAny_stack_any fun st => wpAny_pure ?_
    split
    · rename_i c _ _ _ _ _
      cases (c == Value.type "enumerate") <;> (wp_walk using it1; exact ⟨_, rfl, hr⟩)
    · wp_walk using it1; exact ⟨_, rfl, hr⟩
theorem en_callZ {prog : Program} {w : World} {A : Around} {E : Value → Shared → Prop} {s : Shared} {z TI TO : Addr} {f0 f1 : Value} {Q : Value → Shared → Prop} (hz : ZipAt s.heap z TI TO f0 f1)
    (hq : ∀ h', IsEnum h' s.heap.objs.size z 0 .none → (∀ b u, s.heap.get? b = some u → h'.get? b = some u) → Q (.ref s.heap.objs.size) { s with heap := h' }) : wpAny (model prog w) A (call (.type "enumerate") [.ref z]) Q E s := by
  refine callType_new F.called_enumerate (by decide) (F.typeCall_enumerate_1 _) (F.newCall_enumerate_1 _) (fun obj => F.args_object_init_2 obj _) F.entry_enumerate_new (en_newZ z TI TO f0 f1) ⟨hz, ?_⟩
  have e2 : IsEnum (s.heap.push { cls := .type "enumerate", data := .fields #[.none, .bool false, .ref z, rawInt 0, .none, .none] }) s.heap.objs.size z 0 .none := Heap.get?_push_size _ rfl
  exact ⟨⟨_, e2, rfl⟩, hq _ e2 fun b u x => Heap.get?_push_of_some _ x⟩
theorem pi_EZ {X : Cx} {e e2 : Expr} {ta : TA} {p p2 pos pos2 tpos : Pos} {elts : List Expr} {kk : Nat} (hg : Gl X "enumerate") (hm : X.mg "enumerate" = none) (hg2 : Gl X "zip") (hm2 : X.mg "zip" = none) (ha : PA X [e, e2] ta)
    (hs : starEach [e, e2] X.env = (false, eval e X.env) :: starEach [e2] X.env) (hpl : (backTo pos2 (starEach [e2] X.env)).any (·.1) = false)
    (na : starEach [.Call (.Name "zip" p2) [e, e2] [] pos2] X.env = (false, eval (.Call (.Name "zip" p2) [e, e2] [] pos2) X.env) :: starEach [] X.env) :
    PI X (.Tuple elts kk tpos) (.Call (.Name "enumerate" p) [.Call (.Name "zip" p2) [e, e2] [] pos2] [] pos) (fun σ H R => ta σ H fun vs H1 => ∃ a b xs ys, vs = [.ref a, .ref b] ∧ SqL X.K H1 a xs ∧ SqL X.K H1 b ys ∧ R (ItEZ X.K a b) H1) := by
  refine ⟨fun pins s σ H R I h => ?_⟩
  refine Call_ (ld_blt I hg hm boot_enumerate (PyProof.Rows.callWith_type1 (args_cons ?_ na) na))
  refine Call_ (ld_blt I hg2 hm2 PyProof.Rows.boot_zip (PyProof.Rows.callWith_type1 (thn (ha.run pos2 pins s σ H _ I h) fun us s1 ⟨vs, H1, I1, r1, a, b, xs, ys, ex, hqx, hqy, qq⟩ => ?_) hs hpl))
  subst ex
  obtain ⟨t1, t2, eu, ra, rb⟩ : ∃ u v, us = [u, v] ∧ RelV (.ref a) u ∧ RelV (.ref b) v := by
    cases r1 with
    | cons x r =>
      cases r with
      | cons y r =>
        cases r
        exact ⟨_, _, rfl, x, y⟩
  subst eu
  obtain rfl : t1 = Value.ref a := ra
  obtain rfl : t2 = Value.ref b := rb
  obtain ⟨its, rv, p1, _⟩ := I1.list hqx
  obtain ⟨its2, rv2, p2', _⟩ := I1.list hqy
  refine call_zip_2 p1.isList p2'.isList fun h' hz hTI hTO h1 h2 hsz hk => args_nil ?_
  have I2 : Inv X pins σ H1 { s1 with heap := h' } := I1.kept (t' := s1.toks) hk
  refine en_callZ (s := { s1 with heap := h' }) hz fun h2' he hk2 => wpAny_pyIter_enum he ?_
  have I3 : Inv X pins σ H1 { s1 with heap := h2' } := I2.kept (t' := s1.toks) hk2
  have st : ZSt h2' (s1.heap.objs.size + 4) (s1.heap.objs.size + 2) (s1.heap.objs.size + 3) s1.heap.objs.size (s1.heap.objs.size + 1) a b 0 := ZSt.at (h := h') ⟨⟨.none, .bool false, hz, .inl rfl, bf_ok⟩, hTI, ⟨_, _, hTO⟩, h1, h2⟩ fun c _ o q => hk2 c o q
  have hsz' : h'.objs.size = s1.heap.objs.size + 5 := hsz
  refine ⟨h'.objs.size, [h'.objs.size, s1.heap.objs.size + 4, s1.heap.objs.size + 2, s1.heap.objs.size + 3, s1.heap.objs.size, s1.heap.objs.size + 1], _, _, H1, rfl, I3, turn_EZ (PySem.W.ktu_apart s1.heap.objs.size a b p1.lt p2'.lt) ?_, ⟨⟨.none, he⟩, st⟩, fun c hc => ?_, qq⟩
  · rw [hsz']
    simp
  · have hle : s1.heap.objs.size ≤ c := by
      rw [hsz'] at hc
      simp only [List.mem_cons, List.not_mem_nil, or_false] at hc
      rcases hc with z | z | z | z | z | z <;> rw [z] <;> first | exact Nat.le_refl _ | exact Nat.le_add_right _ _
    exact I1.fpOk hle (I1.hok.fresh hle)
section
variable {X : Cx} {β γ : Type} {σ : L2.St} {K : Hp} {r1 : Rel β} {r2 : Rel γ}
theorem es_EZ {elts : List Expr} {kk : Nat} {tpos p p2 pos pos2 : Pos} {e e2 : Expr} {xs : List β} {ys : List γ} (hm : X.mg "enumerate" = none) (hm2 : X.mg "zip" = none) (h1 : EV X e σ K (rLst X.K r1) xs) (h2 : EV X e2 σ K (rLst X.K r2) ys) (hg : Gl X "enumerate" := by rfl) (hg2 : Gl X "zip" := by rfl)
    (hs : starEach [e, e2] X.env = (false, eval e X.env) :: starEach [e2] X.env := by rfl) (hs2 : starEach [e2] X.env = (false, eval e2 X.env) :: starEach [] X.env := by rfl) (hpl : (backTo pos2 (starEach [e2] X.env)).any (·.1) = false := by rfl)
    (na : starEach [.Call (.Name "zip" p2) [e, e2] [] pos2] X.env = (false, eval (.Call (.Name "zip" p2) [e, e2] [] pos2) X.env) :: starEach [] X.env := by rfl) :
    ES X (.Tuple elts kk tpos) (.Call (.Name "enumerate" p) [.Call (.Name "zip" p2) [e, e2] [] pos2] [] pos) σ K [] (rTup2 X.K rInt (rTup2 X.K r1 r2)) (idx (xs.zip ys)) := fun H le _ R q =>
  PI.to (pi_EZ hg hm hg2 hm2 (paW [e, e2]) hs hpl na) (ea_cons h1 (ea_1 h2 hs2) (mo_cons mo_nil) hs H le _ fun vs K1 H1 n ⟨v, _, e1, ⟨a, as, ea, ha, hap⟩, w, _, e2, ⟨b, bs, eb, hb, hbp⟩, e3⟩ => by
    subst e3; subst e2; subst e1; subst ea; subst eb
    have hl : (idx (xs.zip ys)).length = min as.length bs.length := by rw [idx_length, List.length_zip, paired_len hap, paired_len hbp]
    refine ⟨a, b, as, bs, rfl, le_L n.in_ ha, le_L n.in_ hb, q _ K1 H1 n ⟨fun H' => SqL X.K H' a as ∧ SqL X.K H' b bs, fun i H' v H'' => ∃ T1 T2 x y, v = .ref T2 ∧ H' T1 = none ∧ H' T2 = none ∧ T2 ≠ T1 ∧ H'' = upd (upd H' T1 (.tup [x, y])) T2 (.tup [.int (i : Nat), .ref T1]) ∧ as[i]? = some x ∧ bs[i]? = some y, ⟨fun i _ hi q => ?_, fun _ q => ⟨as, bs, q.1, q.2, by omega⟩, fun i H' v H'' _ q y => ?_⟩, fun H' l _ => ⟨le_L l ha, le_L l hb⟩, fun i H' x H'' hi l _ y => ?_⟩⟩
    · have g1 : i < as.length := by omega
      have g2 : i < bs.length := by omega
      exact ⟨as, bs, as[i], bs[i], q.1, q.2, by simp [g1], by simp [g2]⟩
    · obtain ⟨T1, T2, x, z, a1, a2, a3, a4, a5, a6, a7⟩ := y
      exact ⟨T1, T2, x, z, a1, a2, a3, a4, a5, a6 as q.1, a7 bs q.2⟩
    · obtain ⟨T1, T2, u, v, a1, a2, a3, a4, a5, a6, a7⟩ := y
      obtain ⟨c, g1, g2⟩ := paired_get' hap a6
      obtain ⟨d, g3, g4⟩ := paired_get' hbp a7
      subst a5
      have k1 := l.fresh a2
      have n1 : Nxt K1 H' (upd K1 T1 (.tup [u, v])) (upd H' T1 (.tup [u, v])) := .new l a2
      have a3' : (upd H' T1 (.tup [u, v])) T2 = none := by rw [upd_ne a4]; exact a3
      have n2 := n1.trans (.new (o := .tup [.int (i : Nat), .ref T1]) n1.in_ a3')
      refine ⟨_, ((i : Int), (c, d)), idx_get (zip_get g1 g3), n2, T2, _, _, a1, SqT.of upd_same, rfl, T1, u, v, rfl, SqT.of (by rw [upd_ne (Ne.symm a4), upd_same]), r1.mono n2.le g2, r2.mono n2.le g4⟩)
end
/-! ### new_indexes -/
abbrev gEZ (F : PySem.W.Frag) (i j l : Nat) : TG := gTup F 2 (gCons (gName i) (gCons (gt2 F j l) gNil))
section
variable {P : Program} {w : World} {F : PySem.W.Frag} {mg : Str → Option Value} {base : Heap}
theorem df_newIx (T : TX w F mg) (G : FnF F mg "new_indexes" stNewIx ["needed"]) : Df P w F mg base 1 "new_indexes" (sp1 (rLst F rInt) (rDI rInt) NewOk newIxF) := by
  have S : FnScope ["needed", "found", "new", "low", "high", "old"] ["needed"] (defScope stNewIx) := ⟨rfl, rfl, rfl, by decide +kernel, rfl, by decide +kernel, by decide +kernel⟩
  refine df_fn G S (fun vs H Q E ⟨K, v, a, e, _⟩ => by rw [e]; rfl) ?_
  rintro X _ H Q E f cdv A outer s rfl hr ⟨K, vn, ns, rfl, le, h1, ⟨hz, hb, hE⟩, q⟩
  have hu := hu_of hr
  refine ss_cons (s_newK (i := 1) S.nd rfl (Or.inl rfl) fun p hp => ?_)
  have nE : era (upd H p (.dK [])) p = H := by rw [era_upd, era_none hp]
  refine ss_sd (bs := newIxE ns) (ys := []) (F := fillDI rInt) (Sg := fun σ => ∃ a b c d, σ = [some vn, some (.ref p), a, b, c, d]) (sd_for (K := K) (r := rTup2 F rInt (rTup2 F rInt rInt)) (xs := idx (ns.zip (ns.drop 1))) (em := fun z => (rng z.2.1 z.2.2).flatMap fun old => [(old, z.1)]) (g := gEZ F 2 3 4) (passes_of rfl) rfl ?_ ⟨_, _, _, _, rfl⟩ (es_EZ T.bEnum T.bZip (ev_name 0 rfl h1) (ev_dropL (n := 1) (ev_name 0 rfl h1) ev_int)) ?_) (by rw [nE]; exact le) upd_same ((fillDI rInt).nil K) (by simpa using hE) fun σ3 K3 H3 o3 sg n3 e3 ob3 => ?_
  · exact pg_tup rfl (pgs_cons (pg_name (i := 2) S.nd rfl (Or.inl rfl)) (pgs_cons (pg_n2 3 4 rfl S.nd rfl rfl (Or.inl rfl) (Or.inl rfl) (Or.inl rfl) (Or.inl rfl)) pgs_nil))
  · rintro i ⟨new, lo, hi⟩ σ' K2 x ea ⟨a1, a2, a3, a4, rfl⟩ l2 ⟨p1, v1, v2, rfl, hp1, hn, ⟨p2, v3, v4, rfl, hp2, hlo, hhi⟩⟩
    have hm : (lo, hi) ∈ ns.zip (ns.drop 1) := by
      have := List.mem_of_getElem? ea
      unfold idx at this
      obtain ⟨k, hk, e⟩ := List.getElem_of_mem this
      simp only [List.getElem_zipWith] at e
      have e2 := congrArg Prod.snd e
      simp only at e2
      rw [← e2]
      exact List.getElem_mem _
    have hlo' := hb lo (List.of_mem_zip hm).1
    have hhi' := hb hi (List.mem_of_mem_drop (List.of_mem_zip hm).2)
    refine ⟨_, gd_tup2 hp1 gd_name (gd_tup2 hp2 gd_name gd_name), sd_one (SD1.imp (Sg := fun σ => ∃ d, σ = [some vn, some (.ref p), some v1, some v3, some v4, d]) (sd_for (r := rInt) (xs := rng lo hi) (em := fun old => [(old, new)]) (passes_of rfl) rfl (pg_name (i := 5) S.nd rfl (Or.inl rfl)) ⟨_, rfl⟩ (es_range2 T.bRange (ev_name 3 rfl hlo) (ev_name 4 rfl hhi) (by omega)) ?_) ?_)⟩
    · rintro i2 old σ2 K4 x2 ea2 ⟨d, rfl⟩ l4 hx2
      exact ⟨_, gd_name, sd_one (sd_dputI hu ⟨_, rfl⟩ (ev_name 2 rfl (rInt.mono l4 hn)) (ev_name 1 rfl rfl) (ev_name 5 rfl hx2))⟩
    · rintro σ2 ⟨d, rfl⟩
      exact ⟨_, _, _, _, rfl⟩
  · have hk := le_era_none n3.in_
    rw [nE] at n3
    exact ss_one (s_ret (n3.pubE e3).in_ (ev_name (v := .ref p) (i := 1) (by obtain ⟨a1, a2, a3, a4, rfl⟩ := sg; rfl) (fin_dI (by simpa using ob3) hk)) fun v K' H' n hv => q _ K' H' ((n3.pubE e3).trans n) hv)
end
end SN
end TQP

section TQK
set_option Elab.async false
set_option linter.all false
set_option maxRecDepth 100000
set_option maxHeartbeats 4000017
/-! QK: instances by data; calls that may raise TooMany. -/
namespace SN
open PySem PySem.Spec PyProof.Rows L2
section
variable {X : Cx} {α β γ δ : Type} {σ : L2.St} {K H K' H' : Hp} {r : Rel α} {a : α} {r1 : Rel β} {b : β}
theorem ev_fldG {o : Expr} {f : Str} {pos : Pos} (h : EV X o σ K r1 b) (hq : ∀ K1 v, Le K K1 → r1.r K1 v b → ∃ p C dx fs u, v = .ref p ∧ co K1 p = some (.ins C dx fs) ∧ Cls X.K C ∧ NoAttr X.K C f ∧ fs.lookup f = some u ∧ r.r K1 u a)
    (hb : attributeBase o f X.env (eval o X.env) = eval o X.env := by rfl) : EV X (.Attribute o f pos) σ K r a := fun H l Q q =>
  PE.to (pe_fld (peW o) hb) (h H l _ fun v K1 H1 n hv => by
    obtain ⟨p, C, dx, fs, u, e, h1, c, na, l1, h2⟩ := hq K1 v n.le hv
    exact ⟨p, C, dx, fs, u, e, co_ins.mp (n.in_ p _ h1), c, na, l1, q u K1 H1 n h2⟩)
/-- self.f = e while self is being made -/
theorem s_fldE {o value : Expr} {f : Str} {pos pos' : Pos} {D : Ends} {p C dx : Addr} {fs : List (Str × V)} (hc : Cls X.K C) (hn : NoAttr X.K C f) (hl : fs.length < 1000) (le : Le K (era H p)) (hd : H p = some (.ins C dx fs)) (hv : EV X value σ K r a) (ho : EV X o σ K rVal (.ref p))
    (k : ∀ v K' H', Nxt K (era H p) K' (era H' p) → H' p = some (.ins C dx (putF f v fs)) → r.r K' v a → D.nx σ H')
    (hs : swapsWith value (some (.Attribute o f pos')) pos.line X.env = pure false := by rfl) : wS X (.Assign [.Attribute o f pos'] value pos) D σ H :=
  PS.to (ps_fld (peW o) (peW value) hs) (hv H (era_le le) _ fun v K1 H1 n1 hv => ho.mono n1.le H1 n1.in_ _ fun w K2 H2 n2 hw => by
    have n := n1.trans n2
    have hk := le_era_none le
    exact ⟨p, C, dx, fs, hw, n.same p _ hd, hc, hn, hl, k v K2 _ (n.era hk hd rfl).updE upd_same (r.mono n2.le hv)⟩)

/-! ### a way out by TooMany -/
def Out (CT : Addr) (K H : Hp) (E : XK) : Prop := ∀ K' H' d, Nxt K H K' H' → H' d = none → E (.ref CT) (some d) (upd H' d (.xd [("limit", .int 20)]))
theorem Out.nxt {CT : Addr} {E : XK} (h : Out CT K H E) (n : Nxt K H K' H') : Out CT K' H' E := fun K2 H2 d n2 hd => h K2 H2 d (n.trans n2) hd
/-- an expression gives data (ok), or raises TooMany; E: what is wished then -/
def EVE (X : Cx) (CT : Addr) (E : XK) (e : Expr) (σ : L2.St) (K : Hp) {α : Type} (ok : Bool) (r : Rel α) (a : α) : Prop := ∀ H, Le K H → ∀ Q : VK, (ok = true → ∀ v K' H', Nxt K H K' H' → r.r K' v a → Q v H') → (ok = false → Out CT K H E) → wE X e σ H Q
variable {CT : Addr} {E : XK} {ok : Bool}
theorem EVE.mono {e : Expr} (l : Le K K') (h : EVE X CT E e σ K ok r a) : EVE X CT E e σ K' ok r a := fun H l1 Q q qe => h H (l.trans l1) Q (fun ek v K2 H2 n hv => let ⟨n', l'⟩ := n.wide l l1; q ek v _ H2 n' (r.mono l' hv)) fun ek K2 H2 d n hd => let ⟨n', _⟩ := n.wide l l1; qe ek _ H2 d n' hd
theorem EV.eve {e : Expr} (h : EV X e σ K r a) : EVE X CT E e σ K true r a := fun H l Q q _ => h H l Q fun v K' H' n hv => q rfl v K' H' n hv
theorem EVE.ev {e : Expr} (h : EVE X CT (fun _ _ _ => True) e σ K true r a) : EV X e σ K r a := fun H l Q q => h H l Q (fun _ v K' H' n hv => q v K' H' n hv) fun z => Bool.noConfusion z
theorem s_retE {e : Expr} {pos : Pos} {D : Ends} (l : Le K H) (h : EVE X CT E e σ K ok r a) (k : ok = true → ∀ v K' H', Nxt K H K' H' → r.r K' v a → D.rt v H') (ke : ok = false → Out CT K H E) : wS X (.Return (some e) pos) D σ H :=
  PS.to (ps_ret (peW e)) (h H l _ k ke)
theorem s_exprE {e : Expr} {pos : Pos} {D : Ends} (l : Le K H) (h : EVE X CT E e σ K ok r a) (k : ok = true → ∀ K' H', Nxt K H K' H' → D.nx σ H') (ke : ok = false → Out CT K H E) (hs : swapsWith e none pos.line X.env = pure false := by rfl) : wS X (.Expr e pos) D σ H :=
  PS.to (ps_expr (peW e) hs) (h H l _ (fun ek v K1 H1 n _ => k ek K1 H1 n) ke)
/-- promises of defs that may raise it -/
def sp1E (CT : Addr) (r1 : Rel α) (r : Rel δ) (pre : α → Prop) (okf : α → Bool) (f : α → δ) : Sp := fun vs H Q E => ∃ K v a, vs = [v] ∧ Le K H ∧ r1.r K v a ∧ pre a ∧ (okf a = true → ∀ w K' H', Nxt K H K' H' → r.r K' w (f a) → Q w H') ∧ (okf a = false → Out CT K H E)
def sp2E (CT : Addr) (r1 : Rel α) (r2 : Rel β) (r : Rel δ) (pre : α → β → Prop) (okf : α → β → Bool) (f : α → β → δ) : Sp := fun vs H Q E => ∃ K v a u b, vs = [v, u] ∧ Le K H ∧ r1.r K v a ∧ r2.r K u b ∧ pre a b ∧ (okf a b = true → ∀ w K' H', Nxt K H K' H' → r.r K' w (f a b) → Q w H') ∧ (okf a b = false → Out CT K H E)
theorem ev_callE1 {k : Nat} {x : Str} {e1 : Expr} {p pos : Pos} {rr : Rel δ} {r1 : Rel α} {pre : α → Prop} {okf : α → Bool} {f : α → δ} {a : α} (F : DfX X k x (sp1E CT r1 rr pre okf f)) (hr : Room k X.A) (hx : Passes (L2.CX X.prog X.w) X E) (h1 : EV X e1 σ K r1 a) (hp : pre a)
    (hg : Gl X x := by rfl) (hdb : (x == ("__debug__" : Str)) = false := by decide) (he : starEach [e1] X.env = (false, eval e1 X.env) :: starEach [] X.env := by rfl) (hpl : (backTo pos (starEach [] X.env)).any (·.1) = false := by rfl) :
    EVE X CT E (.Call (.Name x p) [e1] [] pos) σ K (okf a) rr (f a) := fun H l Q q qe => by
  obtain ⟨f', hm, hk, FR⟩ := F.ex
  exact PE.to (pe_df hm hk FR hr hx (paW [e1]) hg hdb he hpl) (ea_1 h1 he H l _ fun vs K2 H2 n2 ⟨v, _, e1, hv, e2⟩ => by
    subst e2; subst e1
    exact ⟨K2, v, a, rfl, n2.in_, hv, hp, fun ek w K3 H3 n3 hw => q ek w K3 H3 (n2.trans n3) hw, fun ek => (qe ek).nxt n2⟩)
theorem ev_callE2 {k : Nat} {x : Str} {e1 e2 : Expr} {p pos : Pos} {rr : Rel δ} {r1 : Rel α} {r2 : Rel β} {pre : α → β → Prop} {okf : α → β → Bool} {f : α → β → δ} {a : α} {b : β} (F : DfX X k x (sp2E CT r1 r2 rr pre okf f)) (hr : Room k X.A) (hx : Passes (L2.CX X.prog X.w) X E) (h1 : EV X e1 σ K r1 a) (h2 : EV X e2 σ K r2 b) (hp : pre a b)
    (hg : Gl X x := by rfl) (hdb : (x == ("__debug__" : Str)) = false := by decide) (he : starEach [e1, e2] X.env = (false, eval e1 X.env) :: starEach [e2] X.env := by rfl) (he2 : starEach [e2] X.env = (false, eval e2 X.env) :: starEach [] X.env := by rfl) (hpl : (backTo pos (starEach [e2] X.env)).any (·.1) = false := by rfl) :
    EVE X CT E (.Call (.Name x p) [e1, e2] [] pos) σ K (okf a b) rr (f a b) := fun H l Q q qe => by
  obtain ⟨f', hm, hk, FR⟩ := F.ex
  exact PE.to (pe_df hm hk FR hr hx (paW [e1, e2]) hg hdb he hpl) (ea_cons h1 (ea_1 h2 he2) (mo_cons mo_nil) he H l _ fun vs K2 H2 n2 ⟨v, _, e1, hv, u, _, e2, hu, e3⟩ => by
    subst e3; subst e2; subst e1
    exact ⟨K2, v, a, u, b, rfl, n2.in_, hv, hu, hp, fun ek w K3 H3 n3 hw => q ek w K3 H3 (n2.trans n3) hw, fun ek => (qe ek).nxt n2⟩)
end
section
variable {P : Program} {w : World} {F : PySem.W.Frag} {mg : Str → Option Value} {base : Heap}
/-- an exception of a callee is the def's own -/
theorem passE {N : List Str} {qual : Str} {st : Stmt} {f : Addr} {cdv : Value} {A : Around} {outer : List Env} {s : Shared} {H : Hp} {E : XK} (σ : L2.St) : Passes (L2.CX P w) (cxD P w F mg base N qual st f cdv A outer s H E) E := fun pins σ' => passAt (X := cxD P w F mg base N qual st f cdv A outer s H E) (W := fun cls d _ H => E cls d H) (takes_of (X := cxD P w F mg base N qual st f cdv A outer s H E) rfl rfl rfl rfl) σ' pins
end
/-! ### solids -/
abbrev Sol := Lines × Cells
structure ClsOk (F : PySem.W.Frag) (C : Addr) : Prop where
  cl : Cls F C
  nl : NoAttr F C "grid_lines"
  nc : NoAttr F C "grid_cells"
abbrev solF (gl gc : V) : List (Str × V) := [("grid_lines", gl), ("grid_cells", gc)]
theorem lkS (gl gc : V) : List.lookup ("grid_cells" : Str) (solF gl gc) = some gc := by
  have h : (("grid_cells" : Str) == ("grid_lines" : Str)) = false := by decide
  show (match (("grid_cells" : Str) == ("grid_lines" : Str)) with | true => some gl | false => (match (("grid_cells" : Str) == ("grid_cells" : Str)) with | true => some gc | false => none)) = some gc
  rw [h, beq_self_eq_true]
def rSol (F : PySem.W.Frag) (C : Addr) : Rel Sol := ⟨fun H v s => ∃ p dx gl gc, v = .ref p ∧ co H p = some (.ins C dx (solF gl gc)) ∧ (rTupL F (rTupL F rInt)).r H gl s.1 ∧ (rDC rBl).r H gc s.2,
  fun le ⟨p, dx, gl, gc, e, h, h1, h2⟩ => ⟨p, dx, gl, gc, e, le p _ h, (rTupL F (rTupL F rInt)).mono le h1, (rDC rBl).mono le h2⟩⟩
section
variable {X : Cx} {σ : L2.St} {K : Hp} {C : Addr} {s : Sol}
theorem ev_gl {o : Expr} {pos : Pos} (c : ClsOk X.K C) (h : EV X o σ K (rSol X.K C) s) (hb : attributeBase o "grid_lines" X.env (eval o X.env) = eval o X.env := by rfl) : EV X (.Attribute o "grid_lines" pos) σ K (rTupL X.K (rTupL X.K rInt)) s.1 :=
  ev_fldG h (fun K1 v _ ⟨p, dx, gl, gc, e, h1, h2, h3⟩ => ⟨p, C, dx, _, gl, e, h1, c.cl, c.nl, rfl, h2⟩) hb
theorem ev_gc {o : Expr} {pos : Pos} (c : ClsOk X.K C) (h : EV X o σ K (rSol X.K C) s) (hb : attributeBase o "grid_cells" X.env (eval o X.env) = eval o X.env := by rfl) : EV X (.Attribute o "grid_cells" pos) σ K (rDC rBl) s.2 :=
  ev_fldG h (fun K1 v _ ⟨p, dx, gl, gc, e, h1, h2, h3⟩ => ⟨p, C, dx, _, gc, e, h1, c.cl, c.nc, (lkS gl gc), h3⟩) hb
end
end SN
end TQK

section TQR
set_option Elab.async false
set_option linter.all false
set_option maxRecDepth 100000
set_option maxHeartbeats 4000017
/-! QR: TooMany, an own exception over OverflowError with a field. -/
namespace SN
open PySem PySem.Spec PyProof.Rows L2 Builtin.ObjectAttr
abbrev oeB : List Value := [.type "OverflowError", .type "ArithmeticError", .type "Exception", .type "BaseException", .type "object"]
/-- what the written part says of TooMany -/
structure TmOk (F : PySem.W.Frag) (C : Addr) : Prop where
  ini : PySem.W.excInitIn F C oeB "OverflowError.__new__" = true
  ov : PySem.W.excOver F C oeB = true
  tk : PySem.W.takerIn F C "limit" = some none
  hd : ∃ cd, PySem.W.clsIn F C = some cd ∧ cd.hasDict = true
  sa : PySem.W.findIn F (.ref C) "__setattr__" = some (some (.builtin "object.__setattr__"))
  exC : PySem.W.subIn F (.ref C) (.type "BaseException") = some true
  tyC : PySem.W.typeIn F (.ref C) = some (.type "type")
  kC : PySem.W.keepIn F (.ref C) = true
section
variable {prog : Program} {w : World} {A : Around} {R : Result → Shared → Prop} {hp : Heap} {g : Array GenState} {d : Drawn} {t : Nat} {os : OsState}
/-- the first field of such an exception, heap by heap -/
theorem tm_osa {F : PySem.W.Frag} {C x : Addr} {fv : Array Value} {tk : Tok} {v : Value} (T : TmOk F C) (I : F.In hp) (hx : hp.get? x = some { cls := .ref C, data := .fields fv })
    (hq : ∀ h' tk' dx, (∀ b o, b ≠ x → hp.get? b = some o → h'.get? b = some o) → hp.objs.size ≤ dx → dx ≠ x → h'.get? x = some { cls := .ref C, dict := some dx, data := .fields fv } → h'.Ns1 dx (fun y => if y = "limit" then some v else none) → R (.ok (.ret .none)) ⟨h', g, d, tk', os⟩) :
    codeAny (model prog w) A (.call (.builtin "object.__setattr__") ⟨[.ref x, .str "limit" tk, v], []⟩) R ⟨hp, g, d, t, os⟩ := by
  have J : PySem.W.InstAt hp x { cls := .ref C, data := .fields fv } C none := ⟨hx, rfl, rfl, trivial⟩
  refine PySem.W.osa_openX PySem.F.store_OverflowError I J T.ov T.tk fun b => ?_
  obtain ⟨⟨nm, bs, mro, ns, qn, hd, sn, sb, ab, col, dl⟩, e, hh⟩ := T.hd
  dsimp only at hh
  subst hh
  have own := PySem.W.looks_clsIn (M := model prog w) I e
  have far : x ≠ hp.objs.size := Nat.ne_of_lt (Heap.lt_size hx)
  show wpAny _ _ (storeInOwnDict (.ref x) (.ref C) (.str "limit" tk) "limit" v b) _ _ _
  unfold storeInOwnDict ownDictForStores
  repeat (first
    | with_reducible refine PySem.HandSPX.store_in_new ?_ ?_
    | with_reducible refine wpAny_loadPart_at hx ?_
    | with_reducible refine own.at ?_
    | wp_step)
  · exact ⟨_, #[], _, (Heap.get?_update_ne _ _ _ _ far.symm).trans (Heap.get?_push_at rfl rfl), rfl, fun e he => absurd he (by simp), fun _ => rfl⟩
  · intro h' tk' n' sb'
    have up : (hp.push { cls := .type "dict", data := .dict #[] }).get? x = some { cls := .ref C, data := .fields fv } := Heap.get?_push_of_some _ hx
    exact hq h' tk' hp.objs.size (fun b o hb ho => (sb'.2 b (Nat.ne_of_lt (Heap.lt_size ho))).trans ((Heap.get?_update_ne _ _ _ _ hb).trans (Heap.get?_push_of_some _ ho))) (Nat.le_refl _) far.symm
      ((sb'.2 x far).trans (Heap.get?_update_self _ up rfl)) n'
end
section
variable {X : Cx} {pins : List (Addr × Obj)} {σ : L2.St} {H : Hp} {s : Shared} {a C : Addr} {y : V} {u : Value} {E : Value → Shared → Prop} {A : Around}
theorem tm_set {Q : Unit → Shared → Prop} (T : TmOk X.K C) (I : Inv X pins σ H s) (e : H a = some (exo a C none)) (ry : RelV y u)
    (h : ∀ dx s', H dx = none → dx ≠ a → Inv X pins σ (upd (upd H dx (exd dx [("limit", y)])) a (exo a C (some dx))) s' → Q () s') : wpAny (model X.prog X.w) A (setAttr (.ref a) "limit" u) Q E s := by
  obtain ⟨t1, ho⟩ := exo_at I.hok e
  obtain ⟨hp, g, d, t, os⟩ := s
  refine PySem.W.set_plain I.kIn (od := none) ⟨ho, rfl, rfl, trivial⟩ T.sa (tm_osa T I.kIn ho fun h' tk' dx k dn dne hx hn => ?_)
  have hnd : H dx = none := I.hok.fresh dn
  have nd : ∀ {b : Addr} {o : Obj}, hp.get? b = some o → b ≠ dx := fun {b o} q => Nat.ne_of_lt (Nat.lt_of_lt_of_le (Heap.lt_size q) dn)
  have na : ∀ {b : Addr}, H b = none → b ≠ a := fun {b} n z => by rw [z, e] at n; cases n
  have un : Un X.fs [] H (upd (upd H dx (exd dx [("limit", y)])) a (exo a C (some dx))) hp h' := ⟨fun b o q n _ _ => k b o (na n) q, fun b o q n _ _ => ⟨o.slots, k b o (na n) q⟩, fun b o q n _ => (upd_ne (na n)).trans ((upd_ne (nd q)).trans n),
    fun b o q _ => (Decidable.em (b = a)).elim (fun z => ⟨_, z ▸ hx⟩) fun z => ⟨o, k b o z q⟩,
    fun b xs q => (upd_ne (at_ne e q exo_tup)).trans ((upd_ne (ne_of_none q hnd)).trans q),
    fun b o v q => (upd_ne (at_ne e q exo_frz)).trans ((upd_ne (ne_of_none q hnd)).trans q),
    fun b ps q => ⟨#[], by rw [upd_ne (at_ne e q exo_tbl), upd_ne (ne_of_none q hnd), q]; simp⟩⟩
  refine h dx _ hnd dne (I.un (t' := tk') un fun b o q => ?_)
  rcases Decidable.em (b = a) with rfl | hb
  · rw [upd_same] at q; cases q; exact exo_ok hx
  rw [upd_ne hb] at q
  rcases Decidable.em (b = dx) with rfl | hd
  · rw [upd_same] at q; cases q; exact exd_ok hn (relO_put (fs := []) ry fun _ => trivial)
  rw [upd_ne hd] at q
  exact (I.hok b o q).stay (fun c v hc z => k c v (hc.elim (fun z => z ▸ hb) fun hc => at_ne e hc exo_own) z) (fun c hc => (upd_ne (at_ne e hc exo_own)).trans ((upd_ne (ne_of_none hc hnd)).trans hc)) fun c xs hc => (upd_ne (at_ne e hc exo_tup)).trans ((upd_ne (ne_of_none hc hnd)).trans hc)
/-- OverflowError.__init__ at it tells nothing -/
theorem tm_base {us : List Value} {Q : Value → Shared → Prop} (T : TmOk X.K C) (I : Inv X pins σ H s) (e : H a = some (exo a C none)) (hl : us.length ≤ sizeLine) (h : ∀ s', Inv X pins σ H s' → Q .none s') :
    wpAny (model X.prog X.w) A (call (.builtin "OverflowError.__init__") (.ref a :: us)) Q E s := by
  obtain ⟨nm, N, q, bs, bm, hdct, sn, sub, ab, col, dd, k0, k1, k2, k3, k5, hC, hT⟩ := PySem.W.excInit_of I.kIn T.ini
  obtain ⟨t1, ho⟩ := exo_at I.hok e
  obtain ⟨hp, g, d, t, os⟩ := s
  refine wpAny_call (PySem.HandSPX.init_base F.excBase_OverflowError hT hC ho hl fun h' t2 k hx => ?_)
  have J := I.write (t' := t) (x := a) (e := a) (o := exo a C none) (by rw [e]; trivial) (.inl rfl) k ⟨_, hx⟩ (exo_ok hx)
  have same : upd H a (exo a C none) = H := funext fun b => (Decidable.em (b = a)).elim (fun z => by rw [z, upd_same, e]) fun z => upd_ne z
  exact h _ (same ▸ J)
end
section
variable {P : Program} {w : World} {F : PySem.W.Frag} {mg : Str → Option Value} {base : Heap}
/-- a def or a method at f, with plain parameters -/
def FnAt (F : PySem.W.Frag) (f : Addr) (x qual : Str) (st : Stmt) (ps : List Str) : Prop := ∃ fd, Fun F x qual st f fd ∧ Binds F fd ps []
theorem fr_fn {x qual : Str} {st : Stmt} {f : Addr} {N ps : List Str} {k : Nat} {sp : Sp} (G : FnAt F f x qual st ps) (S : FnScope N ps (defScope st)) (len : ∀ vs H Q E, sp vs H Q E → vs.length = ps.length)
    (hbody : ∀ (X : Cx) (vs : List V) (H : Hp) (Q : VK) (E : XK) (cdv : Value) (A : Around) (outer : List Env) (s : Shared), X = cxD P w F mg base N qual st f cdv A outer s H E → Room k X.A → sp vs H Q E →
      wSs X (defBody st) { nx := fun _ H' => Q .non H', rt := Q } (start N vs) H) : FnR P w F mg base (L2.CX P w) (k + 1) f sp := by
  obtain ⟨fd, h1, h2⟩ := G
  have z : FnOk P w F mg base (L2.CX P w) (k + 1) f fd ps sp := h1.okX S len fun cdv A outer s H vs Q E hr h => ⟨_, pssW _, hbody _ vs H Q E cdv A outer s rfl hr h⟩
  exact (z.raw h2 .nil).imp fun vs H Q E h => by rw [List.append_nil]; exact h
end
/-! ### words of its __init__ -/
def tTmB (F : PySem.W.Frag) (C : Addr) (ta : TA) : TE := fun σ H Q => ta σ H fun vs H1 => ∃ (a : Addr) (ws : List V), vs = .ref a :: ws ∧ ws.length ≤ sizeLine ∧ H1 a = some (exo a C none) ∧ Q .non H1
theorem typ_oe : typeOf (.type "OverflowError") = pure (.type "type") := by kernel_rfl
section
variable {X : Cx} {σ : L2.St} {K H : Hp} {C a : Addr}
theorem pe_tmB {pl : Sem Bool} {e : Expr} {es : List Expr} {ta : TA} {p1 p2 pos : Pos} (T : TmOk X.K C) (hm : X.mg "OverflowError" = none) (vV : PySem.W.findCls X.K (.type "OverflowError") (.type "type") "__init__" = some (.val (.builtin "OverflowError.__init__"))) (ha : PA X (e :: es) ta)
    (hg : Gl X "OverflowError" := by rfl)
    (hc : eval (.Call (.Attribute (.Name "OverflowError" p1) "__init__" p2) (e :: es) [] pos) X.env = (do
      let o ← eval (.Name "OverflowError" p1) X.env
      standAt p2.atName
      let (f, fst) ← holding [o] (getMethod o "__init__" pl)
      callWith pos f fst (backTo pos (starEach (e :: es) X.env)) (backToKw pos (keywordEach [] X.env))) := by rfl)
    (he : starEach (e :: es) X.env = (false, eval e X.env) :: starEach es X.env := by rfl) (hpl : (backTo pos (starEach es X.env)).any (·.1) = false := by rfl) :
    PE X (.Call (.Attribute (.Name "OverflowError" p1) "__init__" p2) (e :: es) [] pos) (tTmB X.K C ta) := ⟨fun pins s σ H Q I h => by
  refine PySem.W.methodCall_KW (ld_blt I hg hm PyProof.Rows.Boot.«OverflowError» ?_ (by decide) (by decide)) hc
  obtain ⟨m, fr⟩ := I.fr
  refine PySem.W.method_type fr I.ok.mod.kin typ_oe (by decide +kernel) vV (by decide +kernel) ?_
  show wpAny _ _ (callWith pos (Value.builtin "OverflowError.__init__") [] (backTo pos (starEach (e :: es) X.env)) []) _ _ _
  refine PyProof.Rows.callWith_method1 (thn (ha.run pos pins _ σ H _ (I.tok _) h) fun us s1 ⟨vs, H1, I1, r1, a, ws, ev, hl, ea, q⟩ => ?_) he hpl
  subst ev
  cases r1 with
  | @cons _ u0 _ ur ra rw' =>
    obtain rfl : u0 = Value.ref a := ra
    exact tm_base T I1 ea (by rw [← Paired.length rw']; exact hl) fun s' J => ⟨.non, H1, J, rfl, q⟩⟩
/-- OverflowError.__init__(self, ..) -/
theorem s_tmB {pl : Sem Bool} {e1 e2 : Expr} {p1 p2 pos pos' : Pos} {D : Ends} {u : V} (T : TmOk X.K C) (hm : X.mg "OverflowError" = none) (vV : PySem.W.findCls X.K (.type "OverflowError") (.type "type") "__init__" = some (.val (.builtin "OverflowError.__init__")))
    (le : Le K (era H a)) (hd : H a = some (exo a C none)) (h1 : EV X e1 σ K rVal (.ref a)) (h2 : EV X e2 σ K rVal u) (k : ∀ K' H', Nxt K (era H a) K' (era H' a) → H' a = some (exo a C none) → D.nx σ H')
    (hg : Gl X "OverflowError" := by rfl)
    (hc : eval (.Call (.Attribute (.Name "OverflowError" p1) "__init__" p2) [e1, e2] [] pos) X.env = (do
      let o ← eval (.Name "OverflowError" p1) X.env
      standAt p2.atName
      let (f, fst) ← holding [o] (getMethod o "__init__" pl)
      callWith pos f fst (backTo pos (starEach [e1, e2] X.env)) (backToKw pos (keywordEach [] X.env))) := by rfl)
    (he : starEach [e1, e2] X.env = (false, eval e1 X.env) :: starEach [e2] X.env := by rfl) (he2 : starEach [e2] X.env = (false, eval e2 X.env) :: starEach [] X.env := by rfl) (hpl : (backTo pos (starEach [e2] X.env)).any (·.1) = false := by rfl)
    (hs : swapsWith (.Call (.Attribute (.Name "OverflowError" p1) "__init__" p2) [e1, e2] [] pos) none pos'.line X.env = pure false := by rfl) :
    wS X (.Expr (.Call (.Attribute (.Name "OverflowError" p1) "__init__" p2) [e1, e2] [] pos) pos') D σ H :=
  PS.to (ps_expr (pe_tmB T hm vV (paW [e1, e2]) hg hc he hpl) hs) (ea_cons h1 (ea_1 h2 he2) (mo_cons mo_nil) he H (era_le le) _ fun vs K1 H1 n ⟨v, _, e1, hv, w, _, e2, hw, e3⟩ => by
    subst e3; subst e2; subst e1
    obtain rfl : v = V.ref a := hv
    have hk := le_era_none le
    exact ⟨a, _, rfl, (by show 1 ≤ sizeLine; rw [sizeLine_eq]; omega), n.same a _ hd, k K1 H1 (n.era hk hd rfl) (n.same a _ hd)⟩)
theorem s_tmF {o value : Expr} {pos pos' : Pos} {D : Ends} {y : V} (T : TmOk X.K C) (le : Le K (era H a)) (hd : H a = some (exo a C none)) (hv : EV X value σ K rVal y) (ho : EV X o σ K rVal (.ref a))
    (k : ∀ K' H' dx, Nxt K (era H a) K' (era H' a) → H' a = some (exo a C none) → H' dx = none → dx ≠ a → D.nx σ (upd (upd H' dx (exd dx [("limit", y)])) a (exo a C (some dx))))
    (hs : swapsWith value (some (.Attribute o "limit" pos')) pos.line X.env = pure false := by rfl) : wS X (.Assign [.Attribute o "limit" pos'] value pos) D σ H :=
  PS.to (t := fun D σ H => wE X value σ H fun y' H1 => wE X o σ H1 fun x H2 => x = .ref a ∧ H2 a = some (exo a C none) ∧ ∀ dx, H2 dx = none → dx ≠ a → D.nx σ (upd (upd H2 dx (exd dx [("limit", y')])) a (exo a C (some dx))))
    ⟨fun pins s σ H D I h => plainObj_wpAny_Assign_Attribute (thn ((peW value).run pins s σ H _ I h) fun v s1 ⟨y', H1, I1, r1, q1⟩ => thn ((peW o).run pins s1 σ H1 _ I1 q1) fun u s2 ⟨x, H2, I2, r2, ex, ea, q⟩ => by
      subst ex
      obtain rfl : u = Value.ref a := r2
      exact tm_set T I2 ea r1 fun dx s' n ne J => ⟨σ, _, J, q dx n ne⟩) hs⟩
    (hv H (era_le le) _ fun v K1 H1 n1 hv => ho.mono n1.le H1 n1.in_ _ fun w K2 H2 n2 hw => by
      subst hv
      have n := n1.trans n2
      have hk := le_era_none le
      exact ⟨hw, n.same a _ hd, fun dx n1 n2 => k K2 H2 dx (n.era hk hd rfl) (n.same a _ hd) n1 n2⟩)
end
end SN
end TQR

section TQS
set_option Elab.async false
set_option linter.all false
set_option maxRecDepth 100000
set_option maxHeartbeats 4000017
/-! QS: raise TooMany(..), need_few_lines. -/
namespace SN
open PySem PySem.Spec PyProof.Rows L2
def clsBody : Stmt → List Stmt
  | .ClassDef _ _ _ b _ _ _ _ _ _ _ => b
  | _ => []
/-- the j-th statement of the class at place i -/
def mth (i j : Nat) : Stmt := (clsBody (top i)).getD j (.Pass ⟨0, 0, 0, 0⟩)
def spTm (C : Addr) : Sp := fun vs H Q E => ∃ K a y, vs = [.ref a, y] ∧ Le K (era H a) ∧ H a = some (exo a C none) ∧
  ∀ K' H' dx, Nxt K (era H a) K' (era H' a) → H' a = some (exo a C none) → H' dx = none → dx ≠ a → Q .non (upd (upd H' dx (exd dx [("limit", y)])) a (exo a C (some dx)))
/-- the built-in that its __init__ asks -/
structure TmB (F : PySem.W.Frag) (mg : Str → Option Value) : Prop where
  m : mg "OverflowError" = none
  v : PySem.W.findCls F (.type "OverflowError") (.type "type") "__init__" = some (.val (.builtin "OverflowError.__init__"))
section
variable {P : Program} {w : World} {F : PySem.W.Frag} {mg : Str → Option Value} {base : Heap}
theorem fr_tm {C f : Addr} (T : TmOk F C) (B : TmB F mg) (G : FnAt F f "__init__" "TooMany.__init__" (mth 7 0) ["self", "limit"]) : FnR P w F mg base (L2.CX P w) 1 f (spTm C) := by
  have S : FnScope ["self", "limit"] ["self", "limit"] (defScope (mth 7 0)) := ⟨rfl, rfl, rfl, by decide +kernel, rfl, by decide +kernel, by decide +kernel⟩
  refine fr_fn G S (fun vs H Q E ⟨K, a, y, e, _⟩ => by rw [e]; rfl) ?_
  rintro X _ H Q E cdv A outer s rfl hr ⟨K, a, y, rfl, l, hd, q⟩
  refine ss_cons (s_tmB (u := .str "there would be more than the limit") T B.m B.v l hd (ev_name 0 rfl rfl) (fun H l Q q => ev_str H l Q q) fun K1 H1 n1 d1 => ?_)
  refine ss_one (s_tmF (y := y) T n1.in_ d1 (ev_name 1 rfl rfl) (ev_name 0 rfl rfl) fun K2 H2 dx n2 d2 h1 h2 => ?_)
  exact q K2 H2 dx (n1.trans n2) d2 h1 h2
end
/-- TooMany as the module has it -/
structure TmF (F : PySem.W.Frag) (mg : Str → Option Value) (C : Addr) : Prop where
  ok : TmOk F C
  b : TmB F mg
  m : mg "TooMany" = some (.ref C)
  ini : ∃ f, PySem.W.findIn F (.ref C) "__init__" = some (some (.ref f)) ∧ PySem.W.typeIn F (.ref f) = some (.type "function") ∧ FnAt F f "__init__" "TooMany.__init__" (mth 7 0) ["self", "limit"]
theorem exo_tm {H : Hp} {a C dx : Addr} {fs fs' : List (Str × V)} (ne : dx ≠ a) : upd (del (upd (upd H dx (exd dx fs)) a (exo a C (some dx))) a) dx (.xd fs') = upd (era H a) dx (.xd fs') := funext fun b => by
  rcases Decidable.em (b = dx) with e | e
  · subst e; rw [upd_same, upd_same]
  · rw [upd_ne e, upd_ne e]
    rcases Decidable.em (b = a) with z | z
    · subst z; rw [del_same, era_self]
    · rw [del_ne z, upd_ne z, upd_ne e, era_ne z]
section
variable {X : Cx} {σ : L2.St} {K H : Hp} {C : Addr}
/-- TooMany(e) is made -/
theorem pmk_tm {e : Expr} {n : Int} {p pos : Pos} (T : TmF X.K X.mg C) (hr : Room 2 X.A) (h1 : EV X e σ K rInt n) (le : Le K H) (hg : Gl X "TooMany" := by rfl)
    (he : starEach [e] X.env = (false, eval e X.env) :: starEach [] X.env := by rfl) (hpl : (backTo pos (starEach [] X.env)).any (·.1) = false := by rfl) :
    PMk X (.Call (.Name "TooMany" p) [e] [] pos) (fun σ' H' Q => σ' = σ ∧ H' = H ∧ ∀ K2 H2 d, Nxt K H K2 H2 → H2 d = none → Q (.ref C) (some d) (upd H2 d (.xd [("limit", .int n)]))) := by
  rintro pins s σ H Q I ⟨rfl, rfl, q⟩
  obtain ⟨f, iC, tI, G⟩ := T.ini
  have F1 : FnR X.prog X.w X.K X.mg X.base (L2.CX X.prog X.w) 1 f (spTm C) := fr_tm T.ok T.b G
  refine wpAny_Call_Name_kw (ld_glob I hg T.m ?_ (by decide))
  refine PySem.W.callWith_K (h₀ := X.base) I.ok.mod.kin T.ok.kC (thn ((paW [e]).run pos pins s σ H _ I (ea_1 h1 he H le (fun vs H1 => ∃ K1, vs = [.int n] ∧ Nxt K H K1 H1) fun vs K1 H1 n1 ⟨v, _, e1, hv, e2⟩ => ⟨K1, by subst e2; obtain rfl := hv; exact e1, n1⟩)) fun us s1 ⟨vs, H1, I1, r1, K1, ev, n1⟩ => ⟨I1.kIn, ?_⟩) he hpl
  subst ev
  obtain ⟨nm, N, qn, bs, bm, hdct, sn, sub, ab, col, dd, k0, k1, k2, k3, k5, hC, hT⟩ := PySem.W.excInit_of I1.kIn T.ok.ini
  show wpAny _ _ (call (.ref C) us) _ _ _
  obtain ⟨hp, g, dr, tk, os⟩ := s1
  let a : Addr := hp.objs.size + 1
  have hsz : hp.objs.size ≤ a := Nat.le_succ _
  have hn : H1 a = none := I1.hok.fresh hsz
  have kk : ∀ b o, hp.get? b = some o → ((hp.push (PySem.W.kdv_tup us)).push (PySem.HandSPX.excO C hp.objs.size)).get? b = some o := fun b o z => Heap.get?_push_of_some _ (Heap.get?_push_of_some _ z)
  have at_ : ((hp.push (PySem.W.kdv_tup us)).push (PySem.HandSPX.excO C hp.objs.size)).get? (hp.objs.size + 1) = some (PySem.HandSPX.excO C hp.objs.size) := by heap_get
  have I2 := I1.laid (t' := tk) (o := exo a C none) kk hsz (exo_ok at_)
  have hl : us.length ≤ sizeLine := by rw [← Paired.length r1, sizeLine_eq]; exact Nat.le_of_ble_eq_true rfl
  have lk : Le K1 (era (upd H1 a (exo a C none)) a) := by rw [era_upd, era_none hn]; exact n1.in_
  refine wpAny_call (PySem.HandSPX.call_own F.excBase_OverflowError hT hC (PySem.W.looks_findIn I1.kIn iC) (fun self => PySem.W.bind_fn I1.kIn self tI) hl
    (codeAny_mono (F1 _ X.stack _ _ (.ref a :: us) [.ref a, .int n] (fun v H2 => v = .non ∧ ∃ d, H1 d = none ∧ d ≠ a ∧ ∃ K3 H3, Nxt K1 H1 K3 (era H3 a) ∧ H3 d = none ∧ H2 = upd (upd H3 d (exd d [("limit", .int n)])) a (exo a C (some d))) (fun _ _ _ => False) (hr.make C us []) (I2.env0.make C us []) (.cons rfl r1)
      ⟨K1, a, .int n, rfl, lk, upd_same, fun K3 H3 d n3 ha hd ne => ⟨rfl, d, ?_, ne, K3, H3, ?_, hd, rfl⟩⟩) fun r s' hq => ?_))
  · rw [era_upd, era_none hn] at n3
    rcases hz : H1 d with _ | o
    · rfl
    · have := n3.same d o hz
      rw [era_ne ne, hd] at this; cases this
  · rw [era_upd, era_none hn] at n3; exact n3
  cases r with
  | error er =>
    obtain ⟨_, _, _, _, _, _, _, _, _, _, _, _, z⟩ := hq
    exact z.elim
  | ok fl =>
    cases fl with
    | ret u =>
      obtain ⟨v, H2, os2, bare2, un2, hok2, rv, ev, d, hd1, ne, K3, H3, n3, hd3, e2⟩ := hq
      subst ev e2
      obtain ⟨h2, g2, d2, t2, os'⟩ := s'
      refine ⟨rv, mk_end (fs := [("limit", .int n)]) (raises_own T.ok.exC T.ok.tyC) I1 hsz kk un2 hok2 os2 bare2 upd_same ?_ hd1 ?_⟩
      · rw [upd_ne ne, upd_same]
      · rw [exo_tm ne]
        exact q K3 _ d (n1.trans n3) (by rw [era_ne ne]; exact hd3)
    | next => exact hq.elim
    | brk => exact hq.elim
    | cont => exact hq.elim
/-- raise TooMany(e) -/
theorem s_raiseTm {e : Expr} {n : Int} {W : WX} {p pos pos2 : Pos} {D : Ends} (T : TmF X.K X.mg C) (hr : Room 2 X.A) (hc : X.calm = true) (tk : Takes X W) (h1 : EV X e σ K rInt n) (le : Le K H) (q : ∀ K2 H2 d, Nxt K H K2 H2 → H2 d = none → W (.ref C) (some d) σ (upd H2 d (.xd [("limit", .int n)])))
    (hg : Gl X "TooMany" := by rfl) (he : starEach [e] X.env = (false, eval e X.env) :: starEach [] X.env := by rfl) (hpl : (backTo pos (starEach [] X.env)).any (·.1) = false := by rfl) :
    wS X (.Raise (some (.Call (.Name "TooMany" p) [e] [] pos)) none pos2) D σ H := PS.to (ps_raise hc tk (pmk_tm T hr h1 le hg he hpl)) ⟨rfl, rfl, q⟩
end
abbrev stFew : Stmt := top 44
def fewF (l : Lines) : Bool := !(l.map fun o => decide ((20 : Int) < (o.length : Int))).any id
section
variable {P : Program} {w : World} {F : PySem.W.Frag} {mg : Str → Option Value} {base : Heap}
abbrev spFew (F : PySem.W.Frag) (C : Addr) : Sp := sp1E C (rTupL F (rTupL F rInt)) rNon (fun l => l.length ≤ sz) fewF fun _ => ()
theorem df_few {C : Addr} (T : TX w F mg) (B : TB mg) (M : TmF F mg C) (G : FnF F mg "need_few_lines" stFew ["lines"]) : Df P w F mg base 4 "need_few_lines" (spFew F C) := by
  have S : FnScope ["lines", "own"] ["lines"] (defScope stFew) := ⟨rfl, rfl, rfl, by decide +kernel, rfl, by decide +kernel, by decide +kernel⟩
  refine df_fn G S (fun vs H Q E ⟨K, v, a, e, _⟩ => by rw [e]; rfl) ?_
  rintro X _ H Q E f cdv A outer s rfl hr ⟨K, v, a, rfl, l, h1, hz, qt, qf⟩
  obtain ⟨tl, hl⟩ := B.lines
  refine ss_one (s_if (b := !fewF a) l (et_val ((ev_any (bs := a.map fun o => decide ((20 : Int) < (o.length : Int))) rfl T.bAny (ev_cd ?_)).of (by simp [fewF]))) (fun e H1 s1 l1 => ?_) fun e H1 s1 l1 => ?_)
  · refine cd_l1t (own := [("own", 1)]) (xs := a) (f := fun o : List Int => decide ((20 : Int) < (o.length : Int))) (rr := rBl) rfl S.nd (es_tup (ev_name 0 rfl h1)) (blkOk_by (N := ["lines", "own"]) (sc := defScope stFew) (by decide +kernel)) (fun _ _ _ _ _ => pg_name (i := 1) S.nd rfl (Or.inl rfl)) hz ?_
    exact fun i x K2 z ea l2 hx => ⟨_, gd_name, wipe_t (by decide), fun s H0 C cl fp => ev_gt (ev_lenT (l := x) T.bLen (ev_name 1 rfl hx)) (ev_glob (v := .int 20) (r := rInt) hl ⟨tl, rfl⟩ rfl)⟩
  · refine ss_one (s_raiseTm (W := fun cls d _ H => E cls d H) (n := 20) M (hr.mono (by decide)) rfl (takes_of (X := cxD P w F mg base ["lines", "own"] "need_few_lines" stFew f cdv A outer s H E) rfl rfl rfl rfl) (ev_glob (v := .int 20) (r := rInt) hl ⟨tl, rfl⟩ rfl) l1 fun K2 H2 d n hd => ?_)
    exact qf (by simpa using e) K2 H2 d ((Nxt.same1 l s1).trans n) hd
  · exact ss_nil (qt (by simpa using e) .non K H1 (Nxt.same1 l s1) rfl)
end
end SN
end TQS

section TQL
set_option Elab.async false
set_option linter.all false
set_option maxRecDepth 100000
set_option maxHeartbeats 4000017
/-! QL: Solid and OnGrid are made. -/
namespace SN
open PySem PySem.Spec PyProof.Rows L2
section
variable {X : Cx} {α : Type} {σ : L2.St} {K H : Hp} {r : Rel α}
/-- a loop that changes nothing that is known -/
theorem s_forS {tg iter : Expr} {body : List Stmt} {pos : Pos} {Sg : L2.St → Prop} {g : TG} {xs : List α} {D : Ends} (hp : PassesOwn (model X.prog X.w) X.A X.env X.xe) (hc : X.calm = true) (hg : PG X tg g) (hSg : Sg σ) (l : Le K H) (hs : ES X tg iter σ K [] r xs)
    (turn : ∀ (i : Nat) (a : α) (σ' : L2.St) (K2 H2 : Hp) (x : V), xs[i]? = some a → Sg σ' → Nxt K H K2 H2 → r.r K2 x a → ∃ σ2, GD g x σ' K2 σ2 ∧ ∀ D' : Ends, D'.rt = D.rt → (∀ σ3 K3 H3, Sg σ3 → Nxt K2 H2 K3 H3 → D'.nx σ3 H3) → wSs X body D' σ2 H2)
    (q : ∀ σ' K' H', Sg σ' → Nxt K H K' H' → D.nx σ' H') (hf : ∀ x, foldedSetIterable iter X.env x = pure x := by intro _; rfl) : wS X (.For tg iter body [] pos) D σ H := by
  refine s_for hp hc hg l hs (fun K1 H1 n => ?_) hf
  refine ⟨fun i σ' H' => Sg σ' ∧ ∃ K', Nxt K1 H1 K' H', ⟨hSg, K1, .refl n.in_⟩, ?_, ?_, ?_⟩
  · rintro i σ' H' ⟨_, K', n'⟩
    exact ⟨n'.le.trans n'.in_, n'.lk⟩
  · rintro i a σ' H' x K3 H'' ea ⟨sg, K', n'⟩ n3 hr
    obtain ⟨n3', l3⟩ := n3.wide n'.le n'.in_
    obtain ⟨σ2, hg2, hb⟩ := turn i a σ' (join K' K3) H'' x ea sg ((n.trans n').trans n3') (r.mono l3 hr)
    exact hg2 H'' n3'.in_ _ (hb _ rfl fun σ3 K4 H4 sg4 n4 => ⟨sg4, K4, (n'.trans n3').trans n4⟩)
  · rintro σ' H' ⟨sg, K', n'⟩
    exact q σ' K' H' sg (n.trans n')
end
section
variable {P : Program} {w : World} {F : PySem.W.Frag} {mg : Str → Option Value} {base : Heap}
/-- what a def with one plain and one star parameter binds -/
def BindSt (x qual p1 pv : Str) (st : Stmt) : Prop := ∀ (kV doc pm : Value) (an : Option Addr) (cdv ct : Value) (us rest : List Value), us.length = [p1].length →
  bindArgs (PySem.W.fnOf x qual (defArgs st) (defBody st) (defScope st) .none kV doc pm an cdv ct) ⟨us ++ rest, []⟩ = (newTuple rest >>= fun t => pure ([p1].zip us ++ [(pv, t)]))
theorem bs_sol : BindSt "__init__" "Solid.__init__" "self" "boxes" (mth 49 0) := fun kV doc pm an cdv ct => StX.bind_star1  (B := fun zs => bindArgs (PySem.W.fnOf "__init__" "Solid.__init__" (defArgs (mth 49 0)) (defBody (mth 49 0)) (defScope (mth 49 0)) .none kV doc pm an cdv ct) ⟨zs, []⟩)
  (fun a => by with_unfolding_all rfl) (fun a r rs => by with_unfolding_all rfl)
theorem fr_star {x qual p1 pv : Str} {st : Stmt} {f : Addr} {N : List Str} {k : Nat} {sp : Sp} (G : ∃ fd, Fun F x qual st f fd) (hb : BindSt x qual p1 pv st) (S : FnScope N [p1, pv] (defScope st))
    (hbody : ∀ (X : Cx) (vs : List V) (H : Hp) (Q : VK) (E : XK) (cdv : Value) (A : Around) (outer : List Env) (s : Shared), X = cxD P w F mg base N qual st f cdv A outer s H E → Room k X.A → sp vs H Q E →
      wSs X (defBody st) { nx := fun _ H' => Q .non H', rt := Q } (start N vs) H) :
    FnR P w F mg base (L2.CX P w) (k + 1) f (fun vs H Q E => ∃ ws rest, vs = ws ++ rest ∧ ws.length = [p1].length ∧ rest.length ≤ sizeLine ∧ ∀ p, H p = none → sp (ws ++ [.ref p]) (upd H p (.tup rest)) Q E) := by
  obtain ⟨fd, h1⟩ := G
  obtain ⟨oc, od, kV, doc, pm, an, cdv, ct, osl, rfl, lk, hcd⟩ := h1.ex
  exact StX.fn_star (ps := [p1]) lk hcd S StX.cxUp (hb kV doc pm an cdv ct) fun A outer s H vs Q E hr hs => ⟨_, pssW _, hbody _ vs H Q E cdv A outer s rfl hr hs⟩
end
abbrev gsol (bs : List Box) : Lines × Cells × Marks := simpF (gridLn bs) (gridCs bs) []
structure SolOk (bs : List Box) : Prop where
  grid : GridOk bs
  box : ∀ b ∈ bs, isBoxF b = true
  simp : SimpOk (gridLn bs) (gridCs bs) []
  few : fewF (gsol bs).1 = true
theorem fewest_len (a : Lines) (cs : Cells) (l : Marks) : (simpF a cs l).1.length = 3 := by
  show (fewestF a cs l).length = 3
  simp [fewestF, rng3]
/-- an instance's __init__ by data: what it leaves at x -/
def spSolI (F : PySem.W.Frag) (C : Addr) : Sp := fun vs H Q E => ∃ K x dx bs p, vs = [.ref x, .ref p] ∧ H x = some (.ins C dx []) ∧ Le K (era H x) ∧ (rTupL F rBox).r K (.ref p) bs ∧ ClsOk F C ∧ SolOk bs ∧
  ∀ K' H' gl gc, Nxt K (era H x) K' H' → H' x = some (.ins C dx (solF gl gc)) → (rSol F C).r K' (.ref x) ((gsol bs).1, (gsol bs).2.1) → Q .non H'
theorem putF_gc {gl gc : V} : putF "grid_cells" gc [("grid_lines", gl)] = solF gl gc := by
  have h : ¬ (("grid_lines" : Str) = "grid_cells") := by decide
  show (if ("grid_lines" : Str) = "grid_cells" then _ else _) = _
  rw [if_neg h]; rfl
section
variable {P : Program} {w : World} {F : PySem.W.Frag} {mg : Str → Option Value} {base : Heap}
abbrev NSol : List Str := ["self", "boxes", "box", "lines", "cells", "fewest"]
abbrev spGrid (F : PySem.W.Frag) : Sp := sp1 (rTupL F rBox) (rTup2 F (rTupL F (rTupL F rInt)) (rDC rBl)) GridOk fun bs => (gridLn bs, gridCs bs)
abbrev spSimp (P : Program) (w : World) (F : PySem.W.Frag) : Sp := sp3 (rTupL F (rTupL F rInt)) (rDC rBl) (rDN P w rStr) (rTup3 F (rTupL F (rTupL F rInt)) (rDC rBl) (rDN P w rStr)) SimpOk simpF
theorem fr_solI {C f CT : Addr} (T : TX w F mg) (D1 : Df P w F mg base 3 "is_box" (sp1 rBox rBl (fun _ => True) isBoxF)) (D2 : Df P w F mg base 2 "grid_of_boxes" (spGrid F)) (D3 : Df P w F mg base 4 "simplified" (spSimp P w F)) (D4 : Df P w F mg base 4 "need_few_lines" (spFew F CT))
    (G : ∃ fd, Fun F "__init__" "Solid.__init__" (mth 49 0) f fd) :
    FnR P w F mg base (L2.CX P w) 5 f (fun vs H Q E => ∃ ws rest, vs = ws ++ rest ∧ ws.length = [("self" : Str)].length ∧ rest.length ≤ sizeLine ∧ ∀ p, H p = none → spSolI F C (ws ++ [.ref p]) (upd H p (.tup rest)) Q E) := by
  have S : FnScope NSol ["self", "boxes"] (defScope (mth 49 0)) := ⟨rfl, rfl, rfl, by decide +kernel, rfl, by decide +kernel, by decide +kernel⟩
  refine fr_star G bs_sol S ?_
  rintro X _ H Q E cdv A outer s rfl hr ⟨K, x, dx, bs, p, rfl, hx, le, hb, c, ok, q⟩
  have hkx := le_era_none le
  -- the boxes are boxes
  refine ss_cons (s_forS (r := rBox) (xs := bs) (g := gName 2) (Sg := fun σ => ∃ b, σ = [some (.ref x), some (.ref p), b, none, none, none]) (passes_of rfl) rfl (pg_name (i := 2) S.nd rfl (Or.inl rfl)) ⟨none, rfl⟩ (era_le le) (es_tup (ev_name 1 rfl hb)) ?_ ?_)
  · rintro i b σ' K2 H2 y eb ⟨z, rfl⟩ n2 hy
    refine ⟨_, gd_name, fun D' _ k => ?_⟩
    refine ss_one (s_if (b := false) n2.in_ (et_not (b := true) (et_val ((ev_call1 (a := b) D1 (hr.mono (by decide)) (ev_name 2 rfl hy) trivial).of (ok.box b (List.mem_of_getElem? eb))))) (fun e => Bool.noConfusion e) fun _ H3 s3 l3 => ss_nil (k _ K2 H3 ⟨some y, rfl⟩ (Nxt.same1 n2.in_ s3)))
  rintro σ1 K1 H1 ⟨bv, rfl⟩ n1
  have hb1 := (rTupL F rBox).mono n1.le hb
  -- lines, cells
  refine ss_cons (s_asgG (g := gt2 F 3 4) (r := rTup2 F (rTupL F (rTupL F rInt)) (rDC rBl)) (a := (gridLn bs, gridCs bs)) (pg_n2 3 4 rfl S.nd rfl rfl (Or.inl rfl) (Or.inl rfl) (Or.inl rfl) (Or.inl rfl)) n1.in_ (ev_call1 (a := bs) D2 (hr.mono (by decide)) (ev_name 1 rfl hb1) ok.grid) fun v2 K2 H2 n2 hv2 => ?_)
  obtain ⟨p2, vl, vc, rfl, hp2, hvl, hvc⟩ := hv2
  refine gd_tup2 hp2 gd_name gd_name H2 n2.in_ _ ?_
  -- fewest
  refine ss_cons (s_asg (i := 5) S.nd rfl (Or.inl rfl) n2.in_ (ev_call3 (a := gridLn bs) (b := gridCs bs) (c := []) D3 (hr.mono (by decide)) (ev_name 3 rfl hvl) (ev_name 4 rfl hvc) ev_newN ok.simp) fun v3 K3 H3 n3 hv3 => ?_)
  -- fields
  have n03 := (n1.trans n2).trans n3
  have nE := n03.era hkx hx rfl
  have hx3 := n03.same x _ hx
  refine ss_cons (s_fldE c.cl c.nl (by show 0 < 1000; decide) nE.in_ hx3 (ev_t30 (ev_name 5 rfl hv3)) (ev_name 0 rfl rfl) fun gl K4 H4 n4 hx4 hgl => ?_)
  refine ss_cons (s_fldE c.cl c.nc (by show 1 < 1000; decide) n4.in_ hx4 (ev_t31 (ev_name 5 rfl ((rTup3 F (rTupL F (rTupL F rInt)) (rDC rBl) (rDN P w rStr)).mono n4.le hv3))) (ev_name 0 rfl rfl) fun gc K5 H5 n5 hx5 hgc => ?_)
  have hx5' : H5 x = some (.ins C dx (solF gl gc)) := hx5.trans (congrArg (fun fs => some (HO.ins C dx fs)) putF_gc)
  have n05 := ((nE.trans n4).trans n5).pubE hx5'
  have hs : (rSol F C).r (upd K5 x (.ins C dx (solF gl gc))) (.ref x) ((gsol bs).1, (gsol bs).2.1) := by
    have lx := Le.refl (upd K5 x (.ins C dx (solF gl gc)))
    have l5 : Le K5 (upd K5 x (.ins C dx (solF gl gc))) := le_mut (Le.refl _) (le_era_none n5.in_)
    exact ⟨x, dx, gl, gc, rfl, co_ins.mpr upd_same, (rTupL F (rTupL F rInt)).mono (n5.le.trans l5) hgl, (rDC rBl).mono l5 hgc⟩
  -- few
  refine ss_one (s_exprE (CT := CT) (E := E) (ok := fewF (gsol bs).1) (r := rNon) (a := ()) n05.in_ (ev_callE1 (X := cxD P w F mg base NSol "Solid.__init__" (mth 49 0) f cdv A outer s H E) (a := (gsol bs).1) D4 hr (passE []) (ev_gl (s := ((gsol bs).1, (gsol bs).2.1)) c (ev_name 0 rfl hs)) (by rw [fewest_len]; decide)) (fun _ K6 H6 n6 => ?_) fun e => absurd (ok.few.symm.trans e) Bool.noConfusion)
  exact q K6 H6 gl gc (n05.trans n6) (n6.same x _ hx5') ((rSol F C).mono n6.le hs)
end
end SN
end TQL

section TQSU
set_option Elab.async false
set_option linter.all false
set_option maxRecDepth 100000
set_option maxHeartbeats 4000017
/-! QSU: a method of the module whose first statement is super().__init__(). -/
namespace SN
open PySem PySem.Spec PyProof.Rows L2 NdefX
abbrev nfS (qual : Str) (st : Stmt) (cc cda : Addr) : NF := ⟨"__init__", qual, defArgs st, defBody st, defScope st, [("__class__", cc)], cda⟩
/-- what the written part says of such a method at f, in the class D; f2: the __init__ of the next class -/
structure SupF (P : Program) (F : PySem.W.Frag) (f : Addr) (st : Stmt) (qual : Str) (D f2 : Addr) : Prop where
  fn : ∃ (oc : Value) (od : Option Addr) (doc pm ct : Value) (cda cc : Addr) (osl : Array (Option Value)), F.lookup f = some ⟨oc, od, .func ((nfS qual st cc cda).fd doc pm ct), osl⟩ ∧ PySem.W.codeIn F (.ref cda) qual = true ∧
    (∃ ccl cdd vs ccs file tf, F.lookup cda = some ⟨ccl, cdd, .fields vs, ccs⟩ ∧ vs[2]? = some (.str file tf) ∧ ((P.main.file : Str) == file) = true) ∧ ∃ cl cld csl, F.lookup cc = some ⟨cl, cld, .cell (some (.ref D)), csl⟩
  cls : ∃ cd, PySem.W.clsIn F D = some cd
  sub : PySem.W.mroIn F D (.ref D) = some true
  along : PySem.W.ks_superIn F D D "__init__" = some (some (.ref f2))
  ty : PySem.W.typeIn F (.ref f2) = some (.type "function")
  fi : PySem.W.fnIn F f2 = true
  op : PySem.W.nsIn F cStatics "thirdparty.any" = some none
  top : (P.main.scope.names.lookup ("super" : Str)).isSome = false
def BindN (qual : Str) (st : Stmt) (ps : List Str) : Prop := ∀ (cc cda : Addr) (doc pm ct : Value) (us : List Value), us.length = ps.length → bindArgs ((nfS qual st cc cda).fd doc pm ct) ⟨us, []⟩ = pure (ps.zip us)
section
variable {P : Program} {w : World} {F : PySem.W.Frag} {mg : Str → Option Value} {base : Heap}
theorem passN {N : List Str} {NN : NF} {f : Addr} {A : Around} {outer : List Env} {s : Shared} {H : Hp} {E : XK} (σ : L2.St) : Passes (L2.CX P w) (ncx (L2.CX P w) P w F mg base N NN f A outer s H E) E :=
  fun pins σ' => passAt (X := ncx (L2.CX P w) P w F mg base N NN f A outer s H E) (W := fun cls d _ H => E cls d H) (takes_of (X := ncx (L2.CX P w) P w F mg base N NN f A outer s H E) rfl rfl rfl rfl) σ' pins
theorem fr_sup {f D f2 : Addr} {qual : Str} {st : Stmt} {N ps : List Str} {k : Nat} {sp sp2 : Sp} {rest : List Stmt} {p0 p1 p2 p3 p4 : Pos} (G : SupF P F f st qual D f2) (F2 : FnR P w F mg base (L2.CX P w) k f2 sp2) (S : NScope N (("self" : Str) :: ps) ["__class__"] (defScope st)) (hb : BindN qual st (("self" : Str) :: ps))
    (hks : (defScope st).names.lookup ("super" : Str) = some .globalImplicit) (hka : ∃ ar, ((defArgs st).posonlyargs ++ (defArgs st).args).head? = some ar ∧ ar.arg = "self") (hm : mg "super" = none)
    (hst : defBody st = .Expr (.Call (.Attribute (.Call (.Name "super" p0) [] [] p1) "__init__" p2) [] [] p3) p4 :: rest) (len : ∀ vs H Q E, sp vs H Q E → vs.length = (("self" : Str) :: ps).length)
    (hi : ∀ cc cda L : Addr, interactive (envF (nfS qual st cc cda) f L) = false) (hs : ∀ cc cda L : Addr, swapsWith (.Call (.Attribute (.Call (.Name "super" p0) [] [] p1) "__init__" p2) [] [] p3) none p4.line (envF (nfS qual st cc cda) f L) = pure false)
    (he : ∀ cc cda L : Addr, ∃ pl : Sem Bool, eval (.Call (.Attribute (.Call (.Name "super" p0) [] [] p1) "__init__" p2) [] [] p3) (envF (nfS qual st cc cda) f L) = (do
      let o ← attributeBase (.Call (.Name "super" p0) [] [] p1) "__init__" (envF (nfS qual st cc cda) f L) (eval (.Call (.Name "super" p0) [] [] p1) (envF (nfS qual st cc cda) f L))
      standAt p2.atName
      let (g, fst) ← holding [o] (getMethod o "__init__" pl)
      callWith p3 g fst (backTo p3 (starEach [] (envF (nfS qual st cc cda) f L))) []))
    (hbody : ∀ (X : Cx) (vs : List V) (H : Hp) (Q : VK) (E : XK) (cc cda : Addr) (A : Around) (outer : List Env) (s : Shared), X = ncx (L2.CX P w) P w F mg base N (nfS qual st cc cda) f A outer s H E → Room k X.A → sp vs H Q E →
      ∃ x dx fs, vs[0]? = some (.ref x) ∧ H x = some (.ins D dx fs) ∧ sp2 [.ref x] H (fun _ H1 => wSs X rest { nx := fun _ H' => Q .non H', rt := Q } (startF N vs [some (.ref D)]) H1) E) :
    FnR P w F mg base (L2.CX P w) (k + 1) f sp := by
  intro A outer s H us vs Q E hr e0 r hsp
  obtain ⟨⟨oc, od, doc, pm, ct, cda, cc, osl, lk, hcd, ⟨ccl, cdd, cvs, ccs, file, tf, hcode, hvs, hfile⟩, ⟨cl, cld, csl, hcell⟩⟩, ⟨cd, hcls⟩, hsub, halong, hty, hfi, hop, htop⟩ := G
  have KX : F.In s.heap := e0.mod.kin.keeps fun b o e => (e0.bs b o e).1
  have hl := len _ _ _ _ hsp
  have lim : s.heap.NoLimit := e0.mod.nolimit.keeps fun b o e => (e0.bs b o e).1
  refine codeAny_call_function hr.depth (KX _ _ lk) rfl S.co S.gen rfl (PySem.W.codeRec_of KX hcd) ?_
  rw [hb cc cda doc pm ct us (by rw [← r.length]; exact hl)]
  refine wpAny_pure (wpAny_newFunctionEnv S.nocell (fun ⟨n, _⟩ hy => S.par n (List.of_mem_zip hy).1) (fun h₁ hns hsb => ⟨lim.fresh _ hsb, ?_⟩) S.kind)
  have kp : ∀ b o, s.heap.get? b = some o → h₁.get? b = some o := fun b o e => hsb.extBut b o (Nat.ne_of_lt (Heap.lt_size e)) (Heap.get?_push_of_some _ e)
  refine ks_codeAny_funcAt ?_
  have kc : s.heap.IsCell cc (some (.ref D)) := ⟨_, KX _ _ hcell, rfl⟩
  have C : CellsAt [("__class__", cc)] ["__class__"] [some (V.ref D)] s.heap H := {
    len := rfl
    all := fun y c e => by
      have := PySem.mem_of_lookup e
      rw [List.mem_singleton] at this
      cases this
      exact ⟨(e0.bs _ _ (e0.mod.kin _ _ hcell)).2, _, kc⟩
    inj := fun x y c e1 e2 => by
      have a := PySem.mem_of_lookup e1
      have b := PySem.mem_of_lookup e2
      rw [List.mem_singleton] at a b
      exact (congrArg Prod.fst a).trans (congrArg Prod.fst b).symm
    has := fun i y e => by
      cases i with
      | zero =>
        obtain rfl : ("__class__" : Str) = y := Option.some.inj e
        exact ⟨cc, rfl, fun v hv => by
          obtain rfl : V.ref D = v := Option.some.inj (Option.some.inj hv)
          exact ⟨_, rfl, kc⟩⟩
      | succ i => cases e }
  let X : Cx := ncx (L2.CX P w) P w F mg base N (nfS qual st cc cda) f A outer s H E
  have I : L2.Inv X [] (startF N vs [some (V.ref D)]) H { s with heap := h₁, toks := s.toks + ((("self" : Str) :: ps).zip us).length } := inv_startN (F := nfS qual st cc cda) S hr.hd e0 hl r C hns kp
  obtain ⟨x, dx, fs, hv0, hx, q2⟩ := hbody X vs H Q E cc cda A outer s rfl (hr.deeper _) hsp
  have stop : ∀ (fl : Flow) (s' : Shared), SP X [] { nx := fun _ H' => Q .non H', rt := Q } fl s' → CR (L2.CX P w) outer P w H s Q E (.ok (.ret (match fl with | .ret v => v | _ => .none))) s' := fun fl s' hs => by
    have fin : ∀ {σ' : L2.St} {H' : Hp} {v : V} {u : Value}, L2.Inv X [] σ' H' s' → L2.RelV v u → Q v H' → CE outer P w H s Q u s' := fun {σ' H' v u} J rv q => ⟨v, H', J.os, J.bare, J.base, J.hok, rv, q⟩
    cases fl with
    | ret u =>
      obtain ⟨v, σ', H', J, rv, q⟩ := hs
      exact fin J rv q
    | next =>
      obtain ⟨σ', H', J, q⟩ := hs
      exact fin (v := V.non) (u := Value.none) J rfl q
    | brk =>
      obtain ⟨_, _, _, q⟩ := hs
      exact False.elim q
    | cont =>
      obtain ⟨_, _, _, q⟩ := hs
      exact False.elim q
  obtain ⟨ar, hp, har⟩ := hka
  obtain ⟨oD, hD1, hD2⟩ : ∃ oD, F.lookup D = some oD ∧ oD.data = .cls cd := by
    unfold PySem.W.clsIn at hcls
    split at hcls
    · rename_i lo
      cases hcls
      exact ⟨_, lo, rfl⟩
    · cases hcls
  have e1 : execs (defBody st) X.env = execs (.Expr (.Call (.Attribute (.Call (.Name "super" p0) [] [] p1) "__init__" p2) [] [] p3) p4 :: rest) X.env := by rw [hst]
  show _root_.PySem.wpAt (model P w) (A.deeper X.env) (.func (defBody st) X.env) (execs (defBody st) X.env) _ _ _
  rw [e1]
  have hkc : (defScope st).names.lookup ("__class__" : Str) = some .free := S.frk _ (List.mem_singleton_self _)
  have K1 := I.kIn
  obtain ⟨pl, he'⟩ := he cc cda s.heap.objs.size
  refine ks_wpAt_execs_cons (ks_wpAt_Expr_any (hi := hi cc cda _) (hs := hs cc cda _) (ks_wpAt_MethodCall (he := he') (ks_wpAt_super_base (f := f) (cc := cda) (fd := (nfS qual st cc cda).fd doc pm ct) hks hkc (by decide) rfl (K1 _ _ lk) rfl hp rfl (K1 _ _ hcode) rfl hvs hfile htop ?_)))
  obtain ⟨mb, b1, b2⟩ := I.mod.blt
  refine PySem.W.ks_loadName_global S.kind hks (Calls.loadGlobal_builtin (by rw [I.ok.glob]; exact I.mod.glob.keeps I.bk) hm (by rw [I.ok.blt]; exact b1.keeps I.bk) ((b2 "super" (by decide)).trans (by decide +kernel : bootBuiltins "super" = some (.type "super"))) ⟨rfl, ?_⟩)
  refine wpAny_loadName_free S.kind hkc rfl ⟨_, K1 _ _ hcell, rfl⟩ ?_
  have nself : N[0]? = some ("self" : Str) := by
    have z := congrArg (fun l : List Str => l[0]?) S.pre
    rw [List.getElem?_take_of_lt (by show 0 < _; simp)] at z
    exact z
  have sself : (startF N vs [some (V.ref D)])[0]? = some (some (V.ref x)) := by
    unfold startF
    rw [List.getElem?_append_left (by rw [List.length_map, hl]; simp), List.getElem?_map, hv0]; rfl
  have lself : (defScope st).names.lookup ("self" : Str) = some .local := S.par _ (List.mem_cons_self ..)
  obtain ⟨m, nm, loc⟩ := I.loc
  obtain ⟨u, ru, hu⟩ := loc 0 "self" (V.ref x) nself sself (.inl lself)
  obtain rfl : u = Value.ref x := ru
  have mself : m ar.arg = some (.ref x) := by
    rcases hu with ⟨_, z⟩ | ⟨z | z, _⟩
    · rw [har]; exact z
    · exact absurd (lself.symm.trans z) (by decide)
    · exact absurd (lself.symm.trans z) (by decide)
  refine wpAny_loadName_local S.kind (by rw [har]; exact lself) nm mself ?_
  refine ks_wpAny_isType_cls (K1 _ _ hD1) hD2 ⟨rfl, ?_⟩
  obtain ⟨mA, O, _⟩ := ins_get I.hok hx
  obtain ⟨odx, J, _⟩ := O.look
  refine ks_wpAny_call_super (K1 _ _ hD1) hD2 J.at_ J.cls (fun c e => ?_) (PySem.W.looks_mroIn K1 hsub) fun h2 e2 k2 => ?_
  · have := J.no
    unfold PySem.W.notCls at this
    rw [e] at this
    exact Bool.noConfusion this
  have I2 := I.kept (t' := s.toks + (((("self" : Str) :: ps).zip us).length)) k2
  have K2 := I2.kIn
  have al : PySem.W.alongIn F "__init__" ((cd.mro.dropWhile (· != .ref D)).drop 1) = some (some (.ref f2)) := by
    have z := halong
    unfold PySem.W.ks_superIn at z
    rw [hcls] at z
    exact z
  obtain ⟨of, hof, hofc⟩ : ∃ of, F.lookup f2 = some of ∧ of.cls = .type "function" := by
    have z : (F.lookup f2).map (·.cls) = some (.type "function") := hty
    cases y : F.lookup f2 with
    | none => rw [y] at z; cases z
    | some o => rw [y] at z; exact ⟨o, rfl, Option.some.inj z⟩
  have hxD : x ≠ D := PySem.W.ks_ne K1 J hcls
  refine ks_wpAny_getMethod_super e2 (PySem.W.looks_opaque K2 hop) (l₀ := cd.mro) (fun A Q E s k q => wpAny_bind ((PySem.W.looks_clsIn K2 hcls) A _ E s k (wpAny_pure q))) rfl K2 al (K2 _ _ hof) hofc hxD (by decide) ?_
  have I3 := I2.kept (t' := s.toks + (((("self" : Str) :: ps).zip us).length) + 1) (h' := h2.push { cls := .type "method", data := .fields #[.ref f2, .ref x] }) (fun b o e => Heap.get?_push_of_some _ e)
  have hq : (h2.push { cls := .type "method", data := .fields #[.ref f2, .ref x] }).get? h2.objs.size = some (PySem.W.methodObj (.ref f2) (.ref x)) := Heap.get?_push_at rfl rfl
  refine PySem.W.callWith_M0 ⟨hq, I3.kIn⟩ hfi (wpAny_call (ks_codeAny_call_bound hq ?_))
  have hR : Room k X.A := hr.deeper _
  refine codeAny_mono (F2 _ X.stack _ H [.ref x] [.ref x] _ E hR I3.env0 (.cons rfl .nil) q2) fun r s' hq' => ?_
  cases r with
  | error e => exact passN (σ := []) [] _ H _ e s' I3 hq'
  | ok fl =>
    cases fl with
    | ret u =>
      obtain ⟨v, H', I4, rv, q3⟩ := I3.after hq'
      exact wpAt_of_wpAny (wpAny_mono (q3 [] s' I4) (fun fl s2 hs => stop fl s2 hs) fun e s2 hs => hs)
    | next => exact False.elim hq'
    | brk => exact False.elim hq'
    | cont => exact False.elim hq'
end
end SN
end TQSU

section TQOG
set_option Elab.async false
set_option linter.all false
set_option maxRecDepth 100000
set_option maxHeartbeats 4000017
/-! QOG: OnGrid.__init__. -/
namespace SN
open PySem PySem.Spec PyProof.Rows L2 NdefX
def rAny : Rel Unit := ⟨fun _ _ _ => True, fun _ h => h⟩
def keysU {α : Type} (l : List (Cell × α)) : List (Cell × Unit) := l.map fun x => (x.1, ())
theorem keysU_fst {α : Type} (l : List (Cell × α)) : (keysU l).map (fun x => x.1) = l.map (fun x => x.1) := by simp [keysU]
theorem keysU_len {α : Type} (l : List (Cell × α)) : (keysU l).length = l.length := by simp [keysU]
theorem dget_keysU {α : Type} (l : List (Cell × α)) (c : Cell) : (dget (keysU l) c).isSome = (dget l c).isSome := by
  induction l with
  | nil => rfl
  | cons x l ih =>
    show (dget ((x.1, ()) :: keysU l) c).isSome = _
    unfold dget at ih ⊢
    by_cases e : x.1 = c
    · simp [e]
    · simp only [List.find?_cons, decide_eq_false e]; exact ih
theorem rKs_of {α : Type} {r : Rel α} {H : Hp} {v : V} {l : List (Cell × α)} (h : (rDC r).r H v l) : (rDC rAny).r H v (keysU l) := by
  obtain ⟨p, kvs, e, h1, h2⟩ := h
  refine ⟨p, kvs, e, h1, ?_⟩
  unfold keysU
  clear h1
  induction h2 with
  | nil => exact .nil
  | cons q _ ih => exact .cons ⟨q.1, trivial⟩ ih
/-- cells that are walked: a list of them, or the keys of a dict -/
def rIt (F : PySem.W.Frag) : Rel (List Cell) := ⟨fun H v cs => (rLst F rCell).r H v cs ∨ ∃ l, (rDC rAny).r H v l ∧ cs = l.map (fun x : Cell × Unit => x.1), fun le h => h.elim (fun h => .inl ((rLst F rCell).mono le h)) fun ⟨l, h, e⟩ => .inr ⟨l, (rDC rAny).mono le h, e⟩⟩
theorem rIt_of {F : PySem.W.Frag} {α : Type} {r : Rel α} {H : Hp} {v : V} {l : List (Cell × α)} (h : (rDC r).r H v l) : (rIt F).r H v (l.map (fun x => x.1)) := .inr ⟨keysU l, rKs_of h, (keysU_fst l).symm⟩
def tru (c : Cell) : Cell × Bool := (c, true)
def cdict (cs : List Cell) : Cells := dputs [] (cs.map tru)
theorem Nxt.weakE {K H K' H' : Hp} {x : Addr} (n : Nxt K H K' H') (l : Le K H) (h : H x = none) : Nxt K H K (SN.era H' x) :=
  ⟨Le.refl K, le_era (n.le.trans n.in_) (l.fresh h), fun a u e => by
    rw [era_ne (ne_of_none e h)]; exact n.same a u e, fun _ _ _ _ z => z⟩
theorem era_upd_ne {H : Hp} {x p : Addr} {o : HO} (h : p ≠ x) : era (upd H p o) x = upd (era H x) p o := funext fun a => by
  by_cases e : a = p
  · subst e; rw [era_ne h, upd_same, upd_same]
  · rw [upd_ne e]
    by_cases z : a = x
    · subst z; rw [era_self, era_self]
    · rw [era_ne z, era_ne z, upd_ne e]
theorem solOk_nil : SolOk [] where
  grid := ⟨by decide, fun b h => (by cases h), fun b h => (by cases h), fun b h => (by cases h), by decide⟩
  box := fun b h => (by cases h)
  simp := by
    have e : gridCs [] = [] := by decide
    have e2 : gridLn [] = [[], [], []] := by decide
    have n : ∀ j < 3, neededF [] [] j = [] := by decide
    rw [e, e2]
    refine ⟨fun j h => ⟨h, by decide, by decide, ?_⟩, rfl, fun j h i hi => ?_, fun j h => ?_, fun c h => (by cases h), fun q h => (by cases h)⟩
    · have : (need1 [] j ++ need2 [] j) = [] := by simp [need1, need2]
      rw [this]; decide
    · rw [n j h] at hi; cases hi
    · rw [n j h]; exact ⟨by decide, fun x hx => (by cases hx), by decide⟩
  few := by decide
/-- the grid of such cells by the fewest lines -/
abbrev ogS (ls : Lines) (cs : List Cell) : Lines × Cells × Marks := simpF ls (cdict cs) []
/-- what an __init__ leaves of a solid: the solid, or TooMany -/
def spOgI (F : PySem.W.Frag) (D CT : Addr) : Sp := fun vs H Q E => ∃ K x dx lv ls cv cs, vs = [.ref x, lv, cv] ∧ H x = some (.ins D dx []) ∧ Le K (era H x) ∧ (rTupL F (rTupL F rInt)).r K lv ls ∧ (rIt F).r K cv cs ∧ cs.length ≤ sz ∧ SimpOk ls (cdict cs) [] ∧
  (fewF (ogS ls cs).1 = true → ∀ K' H', Nxt K (era H x) K' H' → (rSol F D).r K' (.ref x) ((ogS ls cs).1, (ogS ls cs).2.1) → Q .non H') ∧ (fewF (ogS ls cs).1 = false → Out CT K (era H x) E)
theorem putS_gl {a b v : V} : putF "grid_lines" v (solF a b) = solF v b := by
  show (if ("grid_lines" : Str) = "grid_lines" then _ else _) = _
  rw [if_pos rfl]
theorem putS_gc {a b v : V} : putF "grid_cells" v (solF a b) = solF a v := by
  have h : ¬ (("grid_lines" : Str) = "grid_cells") := by decide
  show (if ("grid_lines" : Str) = "grid_cells" then _ else _) = _
  rw [if_neg h]
  show _ :: (if ("grid_cells" : Str) = "grid_cells" then _ else _) = _
  rw [if_pos rfl]
abbrev stOG : Stmt := mth 50 0
theorem bn_og : BindN "OnGrid.__init__" stOG ["self", "lines", "cells"] := fun cc cda doc pm ct us h => by
  match us, h with
  | [a, b, c], _ => with_unfolding_all rfl
abbrev NOG : List Str := ["self", "lines", "cells", "__class__", "fewest", "cell"]
section
variable {P : Program} {w : World} {F : PySem.W.Frag} {mg : Str → Option Value} {base : Heap}
abbrev spStar (sp : Sp) : Sp := fun vs H Q E => ∃ ws rest, vs = ws ++ rest ∧ ws.length = [("self" : Str)].length ∧ rest.length ≤ sizeLine ∧ ∀ p, H p = none → sp (ws ++ [.ref p]) (upd H p (.tup rest)) Q E
theorem fr_ogI {f f2 D CT : Addr} (T : TX w F mg) (c : ClsOk F D) (hm : mg "super" = none) (G : SupF P F f stOG "OnGrid.__init__" D f2) (F2 : FnR P w F mg base (L2.CX P w) 5 f2 (spStar (spSolI F D))) (D3 : Df P w F mg base 4 "simplified" (spSimp P w F)) (D4 : Df P w F mg base 4 "need_few_lines" (spFew F CT)) :
    FnR P w F mg base (L2.CX P w) 6 f (spOgI F D CT) := by
  have S : NScope NOG ["self", "lines", "cells"] ["__class__"] (defScope stOG) := nscope_by (by decide +kernel)
  refine fr_sup (N := NOG) G F2 S bn_og rfl ⟨_, rfl, rfl⟩ hm rfl (fun vs H Q E ⟨K, x, dx, lv, ls, cv, cs, e, _⟩ => by rw [e]; rfl) (fun _ _ _ => rfl) (fun _ _ _ => rfl) (fun _ _ _ => ⟨_, rfl⟩) ?_
  rintro X _ H Q E cc cda A outer s rfl hr ⟨K, x, dx, lv, ls, cv, cs, rfl, hx, le, hl, hc, hz, ok, qt, qf⟩
  have hu := hu_of hr
  refine ⟨x, dx, [], rfl, hx, [.ref x], [], rfl, rfl, by show 0 ≤ sizeLine; exact Nat.zero_le _, fun p hp => ?_⟩
  have pxn : p ≠ x := fun z => by subst z; rw [hx] at hp; cases hp
  have ee : era (upd H p (.tup [])) x = upd (era H x) p (.tup []) := era_upd_ne pxn
  have hp0 : era H x p = none := (era_ne pxn).trans hp
  have n0 : Nxt K (era H x) (upd K p (.tup [])) (era (upd H p (.tup [])) x) := by rw [ee]; exact Nxt.new le hp0
  refine ⟨upd K p (.tup []), x, dx, [], p, rfl, (upd_ne (Ne.symm pxn)).trans hx, n0.in_, ⟨p, [], rfl, ?_, .nil⟩, c, solOk_nil, fun K1 H1 gl0 gc0 n1 hx1 _ => ?_⟩
  · exact SqT.of (co_tup.mp (co_tup.mpr upd_same))
  have nE := ((n0.trans n1).weakE le era_self)
  have l1 : Le K H1 := era_le nE.in_
  -- fewest
  refine ss_cons (s_asg (i := 4) (r := rTup3 F (rTupL F (rTupL F rInt)) (rDC rBl) (rDN P w rStr)) (a := ogS ls cs) S.nd rfl (Or.inl rfl) l1 (ev_call3 (a := ls) (b := cdict cs) (c := []) D3 (hr.mono (by decide)) (ev_name 1 rfl hl) ?_ ev_newN ok) fun v3 K3 H3 n3 hv3 => ?_)
  · rcases hc with hc | ⟨l, hc, rfl⟩
    · refine ev_cd (cd_dCt (own := [("cell", 5)]) (xs := cs) (f := tru) (rr := rBl) (r := rCell) hu rfl S.nd (es_list (ev_name 2 rfl hc)) (blkOk_by (N := NOG) (sc := defScope stOG) (by decide +kernel)) (fun _ _ _ _ _ => pg_name (i := 5) S.nd rfl (Or.inl rfl)) hz ?_)
      exact fun i a K6 z ea l6 hx => ⟨_, gd_name, wipe_t (by decide), fun s H0 C cl fp => ⟨ev_name 5 rfl hx, ev_bl⟩⟩
    · obtain ⟨d, kvs, rfl, hd, hp2⟩ := hc
      refine ev_cdL (u := .dT kvs) (d := d) (.inr (.inl ⟨kvs, rfl⟩)) hd (cd_dCt (own := [("cell", 5)]) (xs := List.map (fun x : Cell × Unit => x.1) l) (f := tru) (rr := rBl) (r := rCell) hu rfl S.nd (es_keysC (ev_name 2 rfl rfl) ⟨d, kvs, rfl, hd, hp2⟩) (blkOk_by (N := NOG) (sc := defScope stOG) (by decide +kernel)) (fun _ _ _ _ _ => pg_name (i := 5) S.nd rfl (Or.inl rfl)) hz ?_)
      exact fun i a K6 z ea l6 hx => ⟨_, gd_name, wipe_t (by decide), fun s H0 C cl fp => ⟨ev_name 5 rfl hx, ev_bl⟩⟩
  have nE3 := n3.era (le_era_none le) hx1 rfl
  have hx3 := n3.same x _ hx1
  refine ss_cons (s_fldE c.cl c.nl (by show 2 < 1000; decide) nE3.in_ hx3 (ev_t30 (ev_name 4 rfl hv3)) (ev_name 0 rfl rfl) fun gl K4 H4 n4 hx4 hgl => ?_)
  refine ss_cons (s_fldE c.cl c.nc (by rw [putS_gl]; show 2 < 1000; decide) n4.in_ hx4 (ev_t31 (ev_name 4 rfl ((rTup3 F (rTupL F (rTupL F rInt)) (rDC rBl) (rDN P w rStr)).mono n4.le hv3))) (ev_name 0 rfl rfl) fun gc K5 H5 n5 hx5 hgc => ?_)
  have hx5' : H5 x = some (.ins D dx (solF gl gc)) := hx5.trans (congrArg (fun fs => some (HO.ins D dx fs)) (by rw [putS_gl, putS_gc]))
  have n05 := (((nE.trans nE3).trans n4).trans n5).pubE hx5'
  have hs : (rSol F D).r (upd K5 x (.ins D dx (solF gl gc))) (.ref x) ((ogS ls cs).1, (ogS ls cs).2.1) := by
    have l5 : Le K5 (upd K5 x (.ins D dx (solF gl gc))) := le_mut (Le.refl _) (le_era_none n5.in_)
    exact ⟨x, dx, gl, gc, rfl, co_ins.mpr upd_same, (rTupL F (rTupL F rInt)).mono (n5.le.trans l5) hgl, (rDC rBl).mono l5 hgc⟩
  refine ss_one (s_exprE (CT := CT) (E := E) (ok := fewF (ogS ls cs).1) (r := rNon) (a := ()) n05.in_ (ev_callE1 (X := ncx (L2.CX P w) P w F mg base NOG (nfS "OnGrid.__init__" stOG cc cda) f A outer s H E) (a := (ogS ls cs).1) D4 (hr.mono (by decide)) (passN []) (ev_gl (s := ((ogS ls cs).1, (ogS ls cs).2.1)) c (ev_name 0 rfl hs)) (by rw [fewest_len]; decide)) (fun ek K6 H6 n6 => ?_) fun ek => (qf ek).nxt n05)
  exact qt ek K6 H6 (n05.trans n6) ((rSol F D).mono n6.le hs)
end
end SN
end TQOG

section TQMK
set_option Elab.async false
set_option linter.all false
set_option maxRecDepth 100000
set_option maxHeartbeats 4000017
/-! QMK: Marked.__init__; instances are made. -/
namespace SN
open PySem PySem.Spec PyProof.Rows L2 NdefX
structure ClsM (F : PySem.W.Frag) (C : Addr) : Prop where
  cl : Cls F C
  nl : NoAttr F C "grid_lines"
  nc : NoAttr F C "grid_cells"
  nm : NoAttr F C "grid_marks"
abbrev mkF (gl gc gm : V) : List (Str × V) := [("grid_lines", gl), ("grid_cells", gc), ("grid_marks", gm)]
theorem lkM1 (gl gc gm : V) : List.lookup ("grid_cells" : Str) (mkF gl gc gm) = some gc := by
  have h : (("grid_cells" : Str) == ("grid_lines" : Str)) = false := by decide
  show (match (("grid_cells" : Str) == ("grid_lines" : Str)) with | true => some gl | false => (match (("grid_cells" : Str) == ("grid_cells" : Str)) with | true => some gc | false => (match (("grid_cells" : Str) == ("grid_marks" : Str)) with | true => some gm | false => none))) = some gc
  rw [h, beq_self_eq_true]
theorem lkM2 (gl gc gm : V) : List.lookup ("grid_marks" : Str) (mkF gl gc gm) = some gm := by
  have h : (("grid_marks" : Str) == ("grid_lines" : Str)) = false := by decide
  have h2 : (("grid_marks" : Str) == ("grid_cells" : Str)) = false := by decide
  show (match (("grid_marks" : Str) == ("grid_lines" : Str)) with | true => some gl | false => (match (("grid_marks" : Str) == ("grid_cells" : Str)) with | true => some gc | false => (match (("grid_marks" : Str) == ("grid_marks" : Str)) with | true => some gm | false => none))) = some gm
  rw [h, h2, beq_self_eq_true]
abbrev Mkd := Lines × Cells × Marks
def rMk (P : Program) (w : World) (F : PySem.W.Frag) (C : Addr) : Rel Mkd := ⟨fun H v s => ∃ p dx gl gc gm, v = .ref p ∧ co H p = some (.ins C dx (mkF gl gc gm)) ∧ (rTupL F (rTupL F rInt)).r H gl s.1 ∧ (rDC rBl).r H gc s.2.1 ∧ (rDN P w rStr).r H gm s.2.2,
  fun le ⟨p, dx, gl, gc, gm, e, h, h1, h2, h3⟩ => ⟨p, dx, gl, gc, gm, e, le p _ h, (rTupL F (rTupL F rInt)).mono le h1, (rDC rBl).mono le h2, (rDN P w rStr).mono le h3⟩⟩
section
variable {X : Cx} {σ : L2.St} {K : Hp} {C : Addr} {s : Mkd}
theorem ev_ml {o : Expr} {pos : Pos} (c : ClsM X.K C) (h : EV X o σ K (rMk X.prog X.w X.K C) s) (hb : attributeBase o "grid_lines" X.env (eval o X.env) = eval o X.env := by rfl) : EV X (.Attribute o "grid_lines" pos) σ K (rTupL X.K (rTupL X.K rInt)) s.1 :=
  ev_fldG h (fun K1 v _ ⟨p, dx, gl, gc, gm, e, h1, h2, h3, h4⟩ => ⟨p, C, dx, _, gl, e, h1, c.cl, c.nl, rfl, h2⟩) hb
theorem ev_mc {o : Expr} {pos : Pos} (c : ClsM X.K C) (h : EV X o σ K (rMk X.prog X.w X.K C) s) (hb : attributeBase o "grid_cells" X.env (eval o X.env) = eval o X.env := by rfl) : EV X (.Attribute o "grid_cells" pos) σ K (rDC rBl) s.2.1 :=
  ev_fldG h (fun K1 v _ ⟨p, dx, gl, gc, gm, e, h1, h2, h3, h4⟩ => ⟨p, C, dx, _, gc, e, h1, c.cl, c.nc, lkM1 gl gc gm, h3⟩) hb
theorem ev_mm {o : Expr} {pos : Pos} (c : ClsM X.K C) (h : EV X o σ K (rMk X.prog X.w X.K C) s) (hb : attributeBase o "grid_marks" X.env (eval o X.env) = eval o X.env := by rfl) : EV X (.Attribute o "grid_marks" pos) σ K (rDN X.prog X.w rStr) s.2.2 :=
  ev_fldG h (fun K1 v _ ⟨p, dx, gl, gc, gm, e, h1, h2, h3, h4⟩ => ⟨p, C, dx, _, gm, e, h1, c.cl, c.nm, lkM2 gl gc gm, h4⟩) hb
end
/-- a marked solid by the fewest lines -/
abbrev mkS (ls : Lines) (cs : List Cell) (ms : Marks) : Mkd := simpF ls (cdict cs) ms
def spMkI (P : Program) (w : World) (F : PySem.W.Frag) (D CT : Addr) : Sp := fun vs H Q E => ∃ K x dx lv ls cv cs mv ms, vs = [.ref x, lv, cv, mv] ∧ H x = some (.ins D dx []) ∧ Le K (era H x) ∧ (rTupL F (rTupL F rInt)).r K lv ls ∧ (rDC rAny).r K cv cs ∧ (rDN P w rStr).r K mv ms ∧ cs.length ≤ sz ∧ SimpOk ls (cdict (cs.map (fun x => x.1))) ms ∧
  (fewF (mkS ls (cs.map (fun x => x.1)) ms).1 = true → ∀ K' H', Nxt K (era H x) K' H' → (rMk P w F D).r K' (.ref x) (mkS ls (cs.map (fun x => x.1)) ms) → Q .non H') ∧ (fewF (mkS ls (cs.map (fun x => x.1)) ms).1 = false → Out CT K (era H x) E)
theorem putF_gm {a b v : V} : putF "grid_marks" v (solF a b) = mkF a b v := by
  have h : ¬ (("grid_lines" : Str) = "grid_marks") := by decide
  have h2 : ¬ (("grid_cells" : Str) = "grid_marks") := by decide
  show (if ("grid_lines" : Str) = "grid_marks" then _ else _) = _
  rw [if_neg h]
  show _ :: (if ("grid_cells" : Str) = "grid_marks" then _ else _) = _
  rw [if_neg h2]; rfl
abbrev stMK : Stmt := mth 56 0
abbrev NMK : List Str := ["self", "lines", "cells", "marks", "fewest", "cell"]
section
variable {P : Program} {w : World} {F : PySem.W.Frag} {mg : Str → Option Value} {base : Heap}
theorem fr_mkI {f D CT : Addr} (T : TX w F mg) (c : ClsM F D) (G : FnAt F f "__init__" "Marked.__init__" stMK ["self", "lines", "cells", "marks"]) (D3 : Df P w F mg base 4 "simplified" (spSimp P w F)) (D4 : Df P w F mg base 4 "need_few_lines" (spFew F CT)) :
    FnR P w F mg base (L2.CX P w) 5 f (spMkI P w F D CT) := by
  have S : FnScope NMK ["self", "lines", "cells", "marks"] (defScope stMK) := ⟨rfl, rfl, rfl, by decide +kernel, rfl, by decide +kernel, by decide +kernel⟩
  refine fr_fn (N := NMK) G S (fun vs H Q E ⟨K, x, dx, lv, ls, cv, cs, mv, ms, e, _⟩ => by rw [e]; rfl) ?_
  rintro X _ H Q E cdv A outer s rfl hr ⟨K, x, dx, lv, ls, cv, cs, mv, ms, rfl, hx, le, hl, hc, hms, hz, ok, qt, qf⟩
  have hu := hu_of hr
  refine ss_cons (s_asg (i := 4) (r := rTup3 F (rTupL F (rTupL F rInt)) (rDC rBl) (rDN P w rStr)) (a := mkS ls (cs.map (fun x => x.1)) ms) S.nd rfl (Or.inl rfl) (era_le le) (ev_call3 (a := ls) (b := cdict (cs.map (fun x => x.1))) (c := ms) D3 hr (ev_name 1 rfl hl) ?_ (ev_name 3 rfl hms) ok) fun v3 K3 H3 n3 hv3 => ?_)
  · obtain ⟨d, kvs, rfl, hd, hp2⟩ := hc
    refine ev_cdL (u := .dT kvs) (d := d) (.inr (.inl ⟨kvs, rfl⟩)) hd (cd_dCt (own := [("cell", 5)]) (xs := List.map (fun x : Cell × Unit => x.1) cs) (f := tru) (rr := rBl) (r := rCell) hu rfl S.nd (es_keysC (ev_name 2 rfl rfl) ⟨d, kvs, rfl, hd, hp2⟩) (blkOk_by (N := NMK) (sc := defScope stMK) (by decide +kernel)) (fun _ _ _ _ _ => pg_name (i := 5) S.nd rfl (Or.inl rfl)) (by rw [List.length_map]; exact hz) ?_)
    exact fun i a K6 z ea l6 hx => ⟨_, gd_name, wipe_t (by decide), fun s H0 C cl fp => ⟨ev_name 5 rfl hx, ev_bl⟩⟩
  have nE3 := n3.era (le_era_none le) hx rfl
  have hx3 := n3.same x _ hx
  refine ss_cons (s_fldE c.cl c.nl (by show 0 < 1000; decide) nE3.in_ hx3 (ev_t30 (ev_name 4 rfl hv3)) (ev_name 0 rfl rfl) fun gl K4 H4 n4 hx4 hgl => ?_)
  have hv4 := (rTup3 F (rTupL F (rTupL F rInt)) (rDC rBl) (rDN P w rStr)).mono n4.le hv3
  refine ss_cons (s_fldE c.cl c.nc (by show 1 < 1000; decide) n4.in_ hx4 (ev_t31 (ev_name 4 rfl hv4)) (ev_name 0 rfl rfl) fun gc K5 H5 n5 hx5 hgc => ?_)
  have hx5' : H5 x = some (.ins D dx (solF gl gc)) := hx5.trans (congrArg (fun fs => some (HO.ins D dx fs)) putF_gc)
  refine ss_cons (s_fldE c.cl c.nm (by show 2 < 1000; decide) n5.in_ hx5' (ev_t32 (ev_name 4 rfl ((rTup3 F (rTupL F (rTupL F rInt)) (rDC rBl) (rDN P w rStr)).mono n5.le hv4))) (ev_name 0 rfl rfl) fun gm K6 H6 n6 hx6 hgm => ?_)
  have hx6' : H6 x = some (.ins D dx (mkF gl gc gm)) := hx6.trans (congrArg (fun fs => some (HO.ins D dx fs)) putF_gm)
  have n06 := (((nE3.trans n4).trans n5).trans n6).pubE hx6'
  have hs : (rMk P w F D).r (upd K6 x (.ins D dx (mkF gl gc gm))) (.ref x) (mkS ls (cs.map (fun x => x.1)) ms) := by
    have l6 : Le K6 (upd K6 x (.ins D dx (mkF gl gc gm))) := le_mut (Le.refl _) (le_era_none n6.in_)
    exact ⟨x, dx, gl, gc, gm, rfl, co_ins.mpr upd_same, (rTupL F (rTupL F rInt)).mono ((n5.le.trans n6.le).trans l6) hgl, (rDC rBl).mono (n6.le.trans l6) hgc, (rDN P w rStr).mono l6 hgm⟩
  have ml : (mkS ls (cs.map (fun x => x.1)) ms).1.length ≤ sz := by rw [fewest_len]; decide
  generalize mkS ls (cs.map (fun x => x.1)) ms = M at hs qt qf ml
  refine ss_one (s_exprE (CT := CT) (E := E) (ok := fewF M.1) (r := rNon) (a := ()) n06.in_ (ev_callE1 (X := cxD P w F mg base NMK "Marked.__init__" stMK f cdv A outer s H E) (a := M.1) D4 hr (passE []) (ev_ml (s := M) c (ev_name 0 rfl hs)) ml) (fun ek K7 H7 n7 => ?_) fun ek => (qf ek).nxt n06)
  exact qt ek K7 H7 (n06.trans n7) ((rMk P w F D).mono n7.le hs)
end
section
variable {X : Cx} {σ : L2.St} {K : Hp} {CT : Addr} {E : XK} {α : Type} {r : Rel α} {a : α} {ok : Bool}
/-- C(e, ..) by what its __init__ promises -/
theorem ev_makeE {k : Nat} {f C : Addr} {sp : Sp} {x : Str} {e : Expr} {es : List Expr} {p pos : Pos} {Pa : List V → Hp → Prop} (M : L2.Mk X.K C f) (F : FnR X.prog X.w X.K X.mg X.base (L2.CX X.prog X.w) k f sp) (hr : Room (k + 1) X.A) (hm : X.mg x = some (.ref C)) (hx : Passes (L2.CX X.prog X.w) X E) (ha : EA X (e :: es) σ K Pa)
    (h : ∀ vs K1 H1 y dx H2, Le K K1 → Pa vs K1 → H2 y = some (.ins C dx []) → Nxt K1 H1 K1 (era H2 y) → ∀ Q : VK, (ok = true → ∀ v K' H', Nxt K1 H1 K' H' → r.r K' v a → Q v H') → (ok = false → Out CT K1 H1 E) → sp (.ref y :: vs) H2 (fun v H' => v = .non ∧ Q (.ref y) H') E)
    (hg : Gl X x := by rfl) (hdb : (x == ("__debug__" : Str)) = false := by decide) (he : starEach (e :: es) X.env = (false, eval e X.env) :: starEach es X.env := by rfl) (hpl : (backTo pos (starEach es X.env)).any (·.1) = false := by rfl) :
    EVE X CT E (.Call (.Name x p) (e :: es) [] pos) σ K ok r a := fun H l Q q qe =>
  PE.to (StX.pe_makeR M F hr hg hm hx (paW (e :: es)) hdb he hpl) (ha H l _ fun vs K1 H1 n1 hP y dx hy hdx ne =>
    h vs K1 H1 y dx _ n1.le hP upd_same (by
      rw [era_upd, era_none ((upd_ne (Ne.symm ne)).trans hy)]
      exact Nxt.raw n1.in_ hdx) Q (fun ek v K' H' n hv => q ek v K' H' (n1.trans n) hv) fun ek => (qe ek).nxt n1)
end
/-- the classes as the module has them -/
structure CsOk (P : Program) (w : World) (F : PySem.W.Frag) (mg : Str → Option Value) (CS CG CM CT : Addr) : Prop where
  tm : TmF F mg CT
  sol : ClsOk F CS
  og : ClsOk F CG
  mkd : ClsM F CM
  mS : mg "Solid" = some (.ref CS)
  mG : mg "OnGrid" = some (.ref CG)
  mM : mg "Marked" = some (.ref CM)
  sup : mg "super" = none
  iS : ∃ f, L2.Mk F CS f ∧ ∃ fd, Fun F "__init__" "Solid.__init__" (mth 49 0) f fd
  iG : ∃ f f2, L2.Mk F CG f ∧ SupF P F f stOG "OnGrid.__init__" CG f2 ∧ ∃ fd, Fun F "__init__" "Solid.__init__" (mth 49 0) f2 fd
  iM : ∃ f, L2.Mk F CM f ∧ FnAt F f "__init__" "Marked.__init__" stMK ["self", "lines", "cells", "marks"]
/-- the defs that they ask -/
structure DsOk (P : Program) (w : World) (F : PySem.W.Frag) (mg : Str → Option Value) (base : Heap) (CT : Addr) : Prop where
  isBox : Df P w F mg base 3 "is_box" (sp1 rBox rBl (fun _ => True) isBoxF)
  grid : Df P w F mg base 2 "grid_of_boxes" (spGrid F)
  simp : Df P w F mg base 4 "simplified" (spSimp P w F)
  few : Df P w F mg base 4 "need_few_lines" (spFew F CT)
section
variable {X : Cx} {σ : L2.St} {K : Hp} {CS CG CM CT : Addr} {E : XK}
/-- OnGrid(lines, cells) -/
theorem ev_onGrid {e1 e2 : Expr} {p pos : Pos} {ls : Lines} {cs : List Cell} (T : TX X.w X.K X.mg) (Cs : CsOk X.prog X.w X.K X.mg CS CG CM CT) (Ds : DsOk X.prog X.w X.K X.mg X.base CT) (hr : Room 7 X.A) (hx : Passes (L2.CX X.prog X.w) X E) (h1 : EV X e1 σ K (rTupL X.K (rTupL X.K rInt)) ls) (h2 : EV X e2 σ K (rIt X.K) cs)
    (hz : cs.length ≤ sz) (ok : SimpOk ls (cdict cs) []) (hg : Gl X "OnGrid" := by rfl) (he : starEach [e1, e2] X.env = (false, eval e1 X.env) :: starEach [e2] X.env := by rfl) (he2 : starEach [e2] X.env = (false, eval e2 X.env) :: starEach [] X.env := by rfl) (hpl : (backTo pos (starEach [e2] X.env)).any (·.1) = false := by rfl) :
    EVE X CT E (.Call (.Name "OnGrid" p) [e1, e2] [] pos) σ K (fewF (ogS ls cs).1) (rSol X.K CG) ((ogS ls cs).1, (ogS ls cs).2.1) := by
  obtain ⟨f, f2, M, G, G2⟩ := Cs.iG
  have F2 := fr_solI (C := CG) T Ds.isBox Ds.grid Ds.simp Ds.few G2
  refine ev_makeE M (fr_ogI T Cs.og Cs.sup G F2 Ds.simp Ds.few) hr Cs.mG hx (ea_cons h1 (ea_1 h2 he2) (mo_cons mo_nil) he) ?_ hg (by decide) he hpl
  rintro vs K1 H1 y dx H2 l1 ⟨v, _, e1, hv, u, _, e2, hu, e3⟩ hy n Q q qe
  subst e3; subst e2; subst e1
  exact ⟨K1, y, dx, v, ls, u, cs, rfl, hy, n.in_, hv, hu, hz, ok, fun ek K' H' n' hs => ⟨rfl, q ek _ K' H' (n.trans n') hs⟩, fun ek => (qe ek).nxt n⟩
/-- Marked(lines, cells, marks) -/
theorem ev_marked {e1 e2 e3 : Expr} {p pos : Pos} {ls : Lines} {cs : List (Cell × Unit)} {ms : Marks} (T : TX X.w X.K X.mg) (Cs : CsOk X.prog X.w X.K X.mg CS CG CM CT) (Ds : DsOk X.prog X.w X.K X.mg X.base CT) (hr : Room 6 X.A) (hx : Passes (L2.CX X.prog X.w) X E) (h1 : EV X e1 σ K (rTupL X.K (rTupL X.K rInt)) ls) (h2 : EV X e2 σ K (rDC rAny) cs) (h3 : EV X e3 σ K (rDN X.prog X.w rStr) ms)
    (hz : cs.length ≤ sz) (ok : SimpOk ls (cdict (cs.map (fun x => x.1))) ms) (hg : Gl X "Marked" := by rfl) (he : starEach [e1, e2, e3] X.env = (false, eval e1 X.env) :: starEach [e2, e3] X.env := by rfl) (he2 : starEach [e2, e3] X.env = (false, eval e2 X.env) :: starEach [e3] X.env := by rfl) (he3 : starEach [e3] X.env = (false, eval e3 X.env) :: starEach [] X.env := by rfl) (hpl : (backTo pos (starEach [e2, e3] X.env)).any (·.1) = false := by rfl) :
    EVE X CT E (.Call (.Name "Marked" p) [e1, e2, e3] [] pos) σ K (fewF (mkS ls (cs.map (fun x => x.1)) ms).1) (rMk X.prog X.w X.K CM) (mkS ls (cs.map (fun x => x.1)) ms) := by
  obtain ⟨f, M, G⟩ := Cs.iM
  refine ev_makeE M (fr_mkI T Cs.mkd G Ds.simp Ds.few) hr Cs.mM hx (ea_cons h1 (ea_cons h2 (ea_1 h3 he3) (mo_cons mo_nil) he2) (mo_cons (mo_cons mo_nil)) he) ?_ hg (by decide) he hpl
  rintro vs K1 H1 y dx H2 l1 ⟨v, _, e1, hv, u, _, e2, hu, t, _, e3, ht, e4⟩ hy n Q q qe
  subst e4; subst e3; subst e2; subst e1
  exact ⟨K1, y, dx, v, ls, u, cs, t, ms, rfl, hy, n.in_, hv, hu, ht, hz, ok, fun ek K' H' n' hs => ⟨rfl, q ek _ K' H' (n.trans n') hs⟩, fun ek => (qe ek).nxt n⟩
/-- Solid(box) -/
theorem ev_solid {e1 : Expr} {p pos : Pos} {b : Box} (T : TX X.w X.K X.mg) (Cs : CsOk X.prog X.w X.K X.mg CS CG CM CT) (Ds : DsOk X.prog X.w X.K X.mg X.base CT) (hr : Room 6 X.A) (h1 : EV X e1 σ K rBox b) (ok : SolOk [b]) (hg : Gl X "Solid" := by rfl)
    (he : starEach [e1] X.env = (false, eval e1 X.env) :: starEach [] X.env := by rfl) (hpl : (backTo pos (starEach [] X.env)).any (·.1) = false := by rfl) :
    EV X (.Call (.Name "Solid" p) [e1] [] pos) σ K (rSol X.K CS) ((gsol [b]).1, (gsol [b]).2.1) := by
  obtain ⟨f, M, G⟩ := Cs.iS
  have z : EVE X CT E0' (.Call (.Name "Solid" p) [e1] [] pos) σ K true (rSol X.K CS) ((gsol [b]).1, (gsol [b]).2.1) := by
    refine ev_makeE M (fr_solI (C := CS) T Ds.isBox Ds.grid Ds.simp Ds.few G) hr Cs.mS passL' (ea_1 h1 he) ?_ hg (by decide) he hpl
    rintro vs K1 H1 y dx H2 l1 ⟨v, _, e1, hv, e2⟩ hy n Q q _
    subst e2; subst e1
    refine ⟨[.ref y], [v], rfl, rfl, by show 1 ≤ sizeLine; rw [sizeLine_eq]; omega, fun p hp => ?_⟩
    have pxn : p ≠ y := fun z => by subst z; rw [hy] at hp; cases hp
    have ee : era (upd H2 p (.tup [v])) y = upd (era H2 y) p (.tup [v]) := era_upd_ne pxn
    have n0 : Nxt K1 (era H2 y) (upd K1 p (.tup [v])) (era (upd H2 p (.tup [v])) y) := by rw [ee]; exact Nxt.new n.in_ ((era_ne pxn).trans hp)
    exact ⟨_, y, dx, [b], p, rfl, (upd_ne (Ne.symm pxn)).trans hy, n0.in_, ⟨p, [v], rfl, SqT.of (co_tup.mp (co_tup.mpr upd_same)), .cons (rBox.mono n0.le hv) .nil⟩, Cs.sol, ok, fun K' H' gl gc n' hx' hs => ⟨rfl, q rfl _ K' H' ((n.trans n0).trans n') hs⟩⟩
  exact fun H l Q q => PE.to (peW _) (z H l Q (fun _ v K' H' n hv => q v K' H' n hv) fun z => Bool.noConfusion z)
end
end SN
end TQMK

section TQMT
set_option Elab.async false
set_option linter.all false
set_option maxRecDepth 100000
set_option maxHeartbeats 4000017
/-! QMT: methods of instances by data. -/
namespace SN
open PySem PySem.Spec PyProof.Rows L2 NdefX
/-- the relation tells instances of C, none with an own m -/
def InsR (C : Addr) (m : Str) {β : Type} (r : Rel β) : Prop := ∀ K v b, r.r K v b → ∃ p dx fs, v = .ref p ∧ co K p = some (.ins C dx fs) ∧ fs.lookup m = none
/-- a method of C -/
def MtF (F : PySem.W.Frag) (C : Addr) (m qual : Str) (st : Stmt) (ps : List Str) : Prop := ∃ f, Meth F C m f ∧ FnAt F f m qual st ps
section
variable {X : Cx} {α β δ : Type} {σ : L2.St} {K H : Hp} {CT C : Addr} {E : XK} {rr : Rel δ} {r1 : Rel β} {b : β} {r2 : Rel α} {a : α}
theorem pe_methR0 {k : Nat} {f : Addr} {m : Str} {sp : Sp} {o : Expr} {ta : TE} {apos pos : Pos} {pl : Sem Bool} (he : PE X o ta) (c : Cls X.K C) (hm : Meth X.K C m f) (F : FnR X.prog X.w X.K X.mg X.base (L2.CX X.prog X.w) k f sp) (hr : Room k X.A) (hx : Passes (L2.CX X.prog X.w) X E)
    (ht : eval (.Call (.Attribute o m apos) [] [] pos) X.env = (do
      let v ← eval o X.env
      standAt apos.atName
      let (g, fst) ← holding [v] (getMethod v m pl)
      callWith pos g fst (backTo pos (starEach [] X.env)) (backToKw pos (keywordEach [] X.env))) := by rfl) :
    PE X (.Call (.Attribute o m apos) [] [] pos) (tMethR C m sp E ta tNil) := ⟨fun pins s σ H Q I h =>
  PySem.W.methodCall_KW (pl := pl) (thn (he.run pins s σ H _ I h) fun u s1 ⟨x, H1, I1, rx, a, dx, fs, ex, ea, l, q⟩ => by
    subst ex
    obtain rfl : u = Value.ref a := rx
    exact getmeth_ok I1 ea c hm l (PySem.W.callWith_K0 (first := [.ref a]) I1.kIn hm.kp (wpAny_call (run_fnR (us := [.ref a]) (vs := [.ref a]) F hr hx I1 (.cons rfl .nil) q)))) ht⟩
/-- o.m() -/
theorem ev_m1E {k : Nat} {f : Addr} {m : Str} {o : Expr} {apos pos : Pos} {pl : Sem Bool} {pre : β → Prop} {okf : β → Bool} {fn : β → δ} (c : Cls X.K C) (hI : InsR C m r1) (hm : Meth X.K C m f) (F : FnR X.prog X.w X.K X.mg X.base (L2.CX X.prog X.w) k f (sp1E CT r1 rr pre okf fn)) (hr : Room k X.A) (hx : Passes (L2.CX X.prog X.w) X E) (ho : EV X o σ K r1 b) (hp : pre b)
    (ht : eval (.Call (.Attribute o m apos) [] [] pos) X.env = (do
      let v ← eval o X.env
      standAt apos.atName
      let (g, fst) ← holding [v] (getMethod v m pl)
      callWith pos g fst (backTo pos (starEach [] X.env)) (backToKw pos (keywordEach [] X.env))) := by rfl) :
    EVE X CT E (.Call (.Attribute o m apos) [] [] pos) σ K (okf b) rr (fn b) := fun H l Q q qe =>
  PE.to (pe_methR0 (peW o) c hm F hr hx ht) (ho H l _ fun v K1 H1 n1 hv => by
    obtain ⟨p, dx, fs, e, h1, h2⟩ := hI K1 v b hv
    subst e
    exact ⟨p, dx, fs, rfl, co_ins.mp (n1.in_ p _ h1), h2, K1, .ref p, b, rfl, n1.in_, hv, hp, fun ek w K2 H2 n2 hw => q ek w K2 H2 (n1.trans n2) hw, fun ek => (qe ek).nxt n1⟩)
theorem ev_m1 {k : Nat} {f : Addr} {m : Str} {o : Expr} {apos pos : Pos} {pl : Sem Bool} {pre : β → Prop} {fn : β → δ} (c : Cls X.K C) (hI : InsR C m r1) (hm : Meth X.K C m f) (F : FnR X.prog X.w X.K X.mg X.base (L2.CX X.prog X.w) k f (sp1 r1 rr pre fn)) (hr : Room k X.A) (ho : EV X o σ K r1 b) (hp : pre b)
    (ht : eval (.Call (.Attribute o m apos) [] [] pos) X.env = (do
      let v ← eval o X.env
      standAt apos.atName
      let (g, fst) ← holding [v] (getMethod v m pl)
      callWith pos g fst (backTo pos (starEach [] X.env)) (backToKw pos (keywordEach [] X.env))) := by rfl) :
    EV X (.Call (.Attribute o m apos) [] [] pos) σ K rr (fn b) := fun H l Q q =>
  PE.to (pe_methR0 (E := E0') (peW o) c hm F hr passL' ht) (ho H l _ fun v K1 H1 n1 hv => by
    obtain ⟨p, dx, fs, e, h1, h2⟩ := hI K1 v b hv
    subst e
    exact ⟨p, dx, fs, rfl, co_ins.mp (n1.in_ p _ h1), h2, K1, .ref p, b, rfl, n1.in_, hv, hp, fun w K2 H2 n2 hw => q w K2 H2 (n1.trans n2) hw⟩)
/-- o.m(e) -/
theorem ev_m2E {k : Nat} {f : Addr} {m : Str} {o e1 : Expr} {apos pos : Pos} {pl : Sem Bool} {pre : β → α → Prop} {okf : β → α → Bool} {fn : β → α → δ} (c : Cls X.K C) (hI : InsR C m r1) (hm : Meth X.K C m f) (F : FnR X.prog X.w X.K X.mg X.base (L2.CX X.prog X.w) k f (sp2E CT r1 r2 rr pre okf fn)) (hr : Room k X.A) (hx : Passes (L2.CX X.prog X.w) X E) (ho : EV X o σ K r1 b) (h1 : EV X e1 σ K r2 a) (hp : pre b a)
    (hst : starEach [e1] X.env = (false, eval e1 X.env) :: starEach [] X.env := by rfl) (hpl : (backTo pos (starEach [] X.env)).any (·.1) = false := by rfl)
    (ht : eval (.Call (.Attribute o m apos) [e1] [] pos) X.env = (do
      let v ← eval o X.env
      standAt apos.atName
      let (g, fst) ← holding [v] (getMethod v m pl)
      callWith pos g fst (backTo pos (starEach [e1] X.env)) (backToKw pos (keywordEach [] X.env))) := by rfl) :
    EVE X CT E (.Call (.Attribute o m apos) [e1] [] pos) σ K (okf b a) rr (fn b a) := fun H l Q q qe =>
  PE.to (pe_methR (peW o) c hm F hr hx (paW [e1]) hst hpl ht) (ho H l _ fun v K1 H1 n1 hv => by
    obtain ⟨p, dx, fs, e, g1, g2⟩ := hI K1 v b hv
    subst e
    exact ⟨p, dx, fs, rfl, co_ins.mp (n1.in_ p _ g1), g2, (ea_1 (h1.mono n1.le) hst) H1 n1.in_ _ fun vs K2 H2 n2 ⟨u, _, e1, hu, e2⟩ => by
      subst e2; subst e1
      exact ⟨K2, .ref p, b, u, a, rfl, n2.in_, r1.mono n2.le hv, hu, hp, fun ek w K3 H3 n3 hw => q ek w K3 H3 ((n1.trans n2).trans n3) hw, fun ek => (qe ek).nxt (n1.trans n2)⟩⟩)
theorem ev_m2 {k : Nat} {f : Addr} {m : Str} {o e1 : Expr} {apos pos : Pos} {pl : Sem Bool} {pre : β → α → Prop} {fn : β → α → δ} (c : Cls X.K C) (hI : InsR C m r1) (hm : Meth X.K C m f) (F : FnR X.prog X.w X.K X.mg X.base (L2.CX X.prog X.w) k f (sp2 r1 r2 rr pre fn)) (hr : Room k X.A) (ho : EV X o σ K r1 b) (h1 : EV X e1 σ K r2 a) (hp : pre b a)
    (hst : starEach [e1] X.env = (false, eval e1 X.env) :: starEach [] X.env := by rfl) (hpl : (backTo pos (starEach [] X.env)).any (·.1) = false := by rfl)
    (ht : eval (.Call (.Attribute o m apos) [e1] [] pos) X.env = (do
      let v ← eval o X.env
      standAt apos.atName
      let (g, fst) ← holding [v] (getMethod v m pl)
      callWith pos g fst (backTo pos (starEach [e1] X.env)) (backToKw pos (keywordEach [] X.env))) := by rfl) :
    EV X (.Call (.Attribute o m apos) [e1] [] pos) σ K rr (fn b a) := fun H l Q q =>
  PE.to (pe_methR (E := E0') (peW o) c hm F hr passL' (paW [e1]) hst hpl ht) (ho H l _ fun v K1 H1 n1 hv => by
    obtain ⟨p, dx, fs, e, g1, g2⟩ := hI K1 v b hv
    subst e
    exact ⟨p, dx, fs, rfl, co_ins.mp (n1.in_ p _ g1), g2, (ea_1 (h1.mono n1.le) hst) H1 n1.in_ _ fun vs K2 H2 n2 ⟨u, _, e1, hu, e2⟩ => by
      subst e2; subst e1
      exact ⟨K2, .ref p, b, u, a, rfl, n2.in_, r1.mono n2.le hv, hu, hp, fun w K3 H3 n3 hw => q w K3 H3 ((n1.trans n2).trans n3) hw⟩⟩)
end
section
variable {P : Program} {w : World} {F : PySem.W.Frag} {C : Addr} {m : Str}
theorem lk_none {f g h : Str} {x y z : V} {m : Str} (h1 : (m == f) = false) (h2 : (m == g) = false) (h3 : (m == h) = false) : List.lookup m [(f, x), (g, y), (h, z)] = none := by
  show (match (m == f) with | true => some x | false => (match (m == g) with | true => some y | false => (match (m == h) with | true => some z | false => none))) = none
  rw [h1, h2, h3]
theorem lk_none2 {f g : Str} {x y : V} {m : Str} (h1 : (m == f) = false) (h2 : (m == g) = false) : List.lookup m [(f, x), (g, y)] = none := by
  show (match (m == f) with | true => some x | false => (match (m == g) with | true => some y | false => none)) = none
  rw [h1, h2]
theorem insR_sol (h1 : (m == ("grid_lines" : Str)) = false := by decide) (h2 : (m == ("grid_cells" : Str)) = false := by decide) : InsR C m (rSol F C) := fun K v b ⟨p, dx, gl, gc, e, h, _⟩ => ⟨p, dx, _, e, h, lk_none2 h1 h2⟩
theorem insR_mk (h1 : (m == ("grid_lines" : Str)) = false := by decide) (h2 : (m == ("grid_cells" : Str)) = false := by decide) (h3 : (m == ("grid_marks" : Str)) = false := by decide) : InsR C m (rMk P w F C) := fun K v b ⟨p, dx, gl, gc, gm, e, h, _⟩ => ⟨p, dx, _, e, h, lk_none h1 h2 h3⟩
end
end SN
end TQMT

section TQON
set_option Elab.async false
set_option linter.all false
set_option maxRecDepth 100000
set_option maxHeartbeats 4000017
/-! QON: Marked.on_lines. -/
namespace SN
open PySem PySem.Spec PyProof.Rows L2 NdefX
/-- the cells on finer lines, each with the cell it lies in -/
def onC (M : Mkd) (ls : Lines) : List (Cell × Cell) := coarseF M.1 (M.2.1.map (fun x => x.1)) ls
def surfOf {α : Type} (l : List (Cell × α)) : List Sq := surfF (l.map (fun x => x.1)) fun c => (dget l c).isSome
def onQ (M : Mkd) (co : List (Cell × Cell)) (q : Sq) : Sq × Str := (q, (dget M.2.2 ((dget co q.1).getD default, q.2)).getD default)
def onM (M : Mkd) (ls : Lines) : Marks := dputs [] ((surfOf (onC M ls)).map (onQ M (onC M ls)))
def onF (M : Mkd) (ls : Lines) : List (Cell × Cell) × Marks := (onC M ls, onM M ls)
structure OnOk (M : Mkd) (ls : Lines) : Prop where
  co : CoarseOk M.1 (M.2.1.map (fun x => x.1)) ls
  z1 : (onC M ls).length ≤ 100000
  z2 : (surfOf (onC M ls)).length ≤ sz
  has : ∀ q ∈ surfOf (onC M ls), (dget (onC M ls) q.1).isSome = true ∧ (dget M.2.2 ((dget (onC M ls) q.1).getD default, q.2)).isSome = true
theorem getD_of {κ α : Type} [DecidableEq κ] [Inhabited α] {k : κ} {l : List (κ × α)} (h : (dget l k).isSome = true) : dget l k = some ((dget l k).getD default) := by
  cases e : dget l k with
  | none => rw [e] at h; cases h
  | some a => rfl
abbrev stOn : Stmt := mth 56 7
abbrev NOn : List Str := ["self", "lines", "coarse", "marks", "cell", "side"]
section
variable {P : Program} {w : World} {F : PySem.W.Frag} {mg : Str → Option Value} {base : Heap}
abbrev spOn (P : Program) (w : World) (F : PySem.W.Frag) (C : Addr) : Sp := sp2 (rMk P w F C) (rTupL F (rTupL F rInt)) (rTup2 F (rDC rCell) (rDN P w rStr)) OnOk onF
abbrev spCoarse (F : PySem.W.Frag) {α : Type} (r : Rel α) : Sp := sp3 (rTupL F (rTupL F rInt)) (rDC r) (rTupL F (rTupL F rInt)) (rDC rCell) (fun a l b => CoarseOk a (l.map (fun x => x.1)) b) fun a l b => coarseF a (l.map (fun x => x.1)) b
abbrev spSurf (F : PySem.W.Frag) {α : Type} (r : Rel α) : Sp := sp1 (rDC r) (rLst F (rSq F)) (fun l => l.length ≤ 100000) surfOf
theorem fr_on {f C : Addr} (c : ClsM F C) (D1 : Df P w F mg base 2 "coarse_cells" (spCoarse F rBl)) (D2 : Df P w F mg base 3 "surface_squares" (spSurf F rCell)) (G : FnAt F f "on_lines" "Marked.on_lines" stOn ["self", "lines"]) : FnR P w F mg base (L2.CX P w) 4 f (spOn P w F C) := by
  have S : FnScope NOn ["self", "lines"] (defScope stOn) := ⟨rfl, rfl, rfl, by decide +kernel, rfl, by decide +kernel, by decide +kernel⟩
  refine fr_fn (N := NOn) G S (fun vs H Q E ⟨K, v, a, u, b, e, _⟩ => by rw [e]; rfl) ?_
  rintro X _ H Q E cdv A outer s rfl hr ⟨K, v, M, u, ls, rfl, l, h1, h2, ok, q⟩
  have hu := hu_of hr
  have hu64 : A.units + 3 + 64 < cLine := by have := hr.un; show _; exact Nat.lt_of_le_of_lt (by show _ ≤ (A.units + 3) + 16 * 3 + 200; omega) this
  refine ss_cons (s_asg (i := 2) (r := rDC rCell) (a := onC M ls) S.nd rfl (Or.inr rfl) l (ev_call3 (a := M.1) (b := M.2.1) (c := ls) D1 (hr.mono (by decide)) (ev_ml (s := M) c (ev_name 0 rfl h1)) (ev_mc (s := M) c (ev_name 0 rfl h1)) (ev_name 1 rfl h2) ok.co) fun v3 K1 H1 n1 hv3 => ?_)
  have h1' := (rMk P w F C).mono n1.le h1
  refine ss_cons (s_cd (i := 3) (rr := rDN P w rStr) (z := onM M ls) S.nd rfl n1.in_ ?_ fun v4 K2 H2 n2 hv4 => ?_)
  · refine cd_dNt (g := gt2 F 4 5) (r := rSq F) (own := [("cell", 4), ("side", 5)]) (xs := surfOf (onC M ls)) (f := onQ M (onC M ls)) (rr := rStr) hu64 rfl S.nd (es_list (ev_call1 (a := onC M ls) D2 hr (ev_name 2 rfl hv3) ok.z1)) (blkOk_by (N := NOn) (sc := defScope stOn) (by decide +kernel)) (fun _ _ _ _ _ => pg_n2 4 5 rfl S.nd rfl rfl (Or.inl rfl) (Or.inl rfl) (Or.inr rfl) (Or.inr rfl)) ok.z2 ?_
    intro i qq K3 x ea l3 ⟨p, pc, e1, g1, g2⟩
    subst e1
    obtain ⟨hs1, hs2⟩ := ok.has qq (List.mem_of_getElem? ea)
    refine ⟨_, gd_tup2 (SqT.of (co_tup.mp g1)) gd_name gd_name, (wipe_set (by decide)).trans (wipe_t (by decide)), fun s H0 C cl fp => ?_⟩
    exact ⟨ev_sq (ev_name 4 rfl ⟨pc, rfl, g2⟩) (ev_name 5 rfl rfl), ev_dgetN hu64 (ev_mm (s := M) c (ev_name 0 rfl ((rMk P w F _).mono l3 h1'))) (ev_sq (ev_dgetC hu (ev_name 2 rfl ((rDC rCell).mono l3 hv3)) (ev_name 4 rfl ⟨pc, rfl, g2⟩) (getD_of hs1)) (ev_name 5 rfl rfl)) (getD_of hs2)⟩
  exact ss_one (s_ret (r := rTup2 F (rDC rCell) (rDN P w rStr)) (a := onF M ls) n2.in_ (ev_tup2 (ev_name 2 rfl ((rDC rCell).mono n2.le hv3)) (ev_name 3 rfl hv4)) fun v K' H' n hv => q _ K' H' ((n1.trans n2).trans n) hv)
end
end SN
end TQON

section TQDD
set_option Elab.async false
set_option linter.all false
set_option maxRecDepth 100000
set_option maxHeartbeats 4000017
/-! QDD: {**a, **b} over dicts whose keys are tuples. -/
namespace SN
open PySem PySem.Spec PyProof.Rows L2
section
variable {prog : Program} {w : World} {κ : Type} [DecidableEq κ] {knd : HeapKind prog w κ} {A : Around} {E : Value → Shared → Prop} {s : Shared} {d a b : Addr}
theorem put_heap {xs : List (κ × Addr × Value)} {k : κ} {v : Value} {Q : Unit → Shared → Prop} (hu : knd.room A) (is : knd.is s.heap k a) (m : s.heap.DictOfH knd d xs) (z : xs.length ≤ sizeLine)
    (q : ∀ h', h'.DictOfH knd d (storedH xs k a v) → Heap.SameBut d s.heap h' → Q () { s with heap := h' }) : wpAny (model prog w) A (dictPut d (knd.hash k) (.ref a) v) Q E s := by
  obtain ⟨o, es, ep, at_, cl, dat, en, all, nd⟩ := m
  have ze := size_of_entries en
  unfold dictPut
  refine wpAny_bind (wpAny_dictFind_heap hu is at_ dat en all nd (fun fresh => ?_) fun j p old => ?_)
  · have out : k ∉ xs.map (·.1) := not_mem_keys_of_get fresh
    have e1 := storedH_new (atKey_none_of_get fresh) a v
    refine wpAny_updateDictKeys (hz := by omega) at_ dat (q _ ⟨_, _, ep + 1, Heap.get?_update_self _ at_ (Obj.isFreed_of_dict (Obj.data_mapDictKeys dat _)), cl.mapDictKeys _, Obj.data_mapDictKeys dat _, ?_, ?_, ?_⟩ (Heap.SameBut.update ..))
    · rw [e1]; simp [en, entryOfKey]
    · rw [e1]
      exact fun x hx => (List.mem_append.mp hx).elim (fun hx => knd.keeps (all x hx) at_ dat (Heap.SameBut.update ..)) fun hx => by
        obtain rfl := List.mem_singleton.mp hx
        exact knd.keeps is at_ dat (Heap.SameBut.update ..)
    · rw [e1, List.map_append]
      refine List.nodup_append.mpr ⟨nd, by simp, fun x hx y hy => ?_⟩
      obtain rfl : y = k := by simpa using hy
      exact fun e => out (e ▸ hx)
  · have e1 := storedH_old (atKey_of_get nd old) a v
    refine wpAny_updateDict at_ dat (q _ ⟨_, _, ep, Heap.get?_update_self _ at_ (Obj.isFreed_of_dict (Obj.data_mapDict dat _)), cl.mapDict _, Obj.data_mapDict dat _, ?_, ?_, ?_⟩ (Heap.SameBut.update ..))
    · have z := modify_map_putAt (entryOfKey knd) (fun e : DictEntry => { e with val := v }) k v (fun _ _ => rfl) nd old
      rw [← en] at z
      rw [e1]
      obtain ⟨l⟩ := es
      simpa using z
    · rw [e1]
      intro x hx
      obtain ⟨y, hy, rfl⟩ := List.mem_map.mp hx
      unfold putAt
      split <;> exact knd.keeps (all y hy) at_ dat (Heap.SameBut.update ..)
    · rw [e1, keys_map_putAt]; exact nd
/-- the step of a dict display at **m, m at b -/
theorem merge_heap {xs ys : List (κ × Addr × Value)} {Q : Unit → Shared → Prop} (hu : knd.room A) (ne : d ≠ b) (bS : (b == sysModules) = false) (m : s.heap.DictOfH knd d xs) (m2 : s.heap.DictOfH knd b ys) (hz : xs.length + ys.length ≤ sizeLine)
    (ap : xs ≠ [] ∨ ((∀ x ∈ ys, s.TypeIs (.ref x.2.1) "tuple") ∧ (ys.map fun x => knd.hash x.1).Nodup)) (q : ∀ h', h'.DictOfH knd d (storedAllH xs ys) → h'.DictOfH knd b ys → Heap.SameBut d s.heap h' → Q () { s with heap := h' }) :
    wpAny (model prog w) A (mergeMapping d (.ref b) false) Q E s := by
  obtain ⟨od, ed, pd, atd, cld, datd, end_, alld, ndd⟩ := id m
  obtain ⟨ob, eb, pb, atb, clb, datb, enb, allb, ndb⟩ := id m2
  have zb : eb.size = ys.length := size_of_entries enb
  unfold mergeMapping
  refine wpAny_bind (wpAny_isInstance m2.typeIs isSubtype_dict_dict ?_)
  rw [if_pos rfl]
  refine wpAny_bind (wpAny_specialOf m2.typeIs F.slot_dict_iter.lookup ?_)
  refine wpAny_bind (wpAny_pure ?_)
  rw [beq_self_eq_true]
  dsimp only
  rw [if_neg (by rw [bS]; exact Bool.false_ne_true)]
  refine wpAny_bind (wpAny_dictEntries atd datd ?_)
  have loop : wpAny (model prog w) A (do
      let es ← dictEntries b
      let epoch ← dictEpoch b
      forIn (List.range es.size) PUnit.unit fun i (_ : PUnit) => (do
        let es' ← dictEntries b
        match es'[i]? with
        | some e => do
          holding [e.key, e.val] (dictPut d e.hash e.key e.val)
          let ep' ← dictEpoch b
          if (ep' != epoch) = true then do
            (unsupported "dict.changed-during-merge" : Sem PUnit)
            pure (ForInStep.yield PUnit.unit)
          else pure (ForInStep.yield PUnit.unit)
        | x => do
          (unsupported "dict.changed-during-merge" : Sem PUnit)
          pure (ForInStep.yield PUnit.unit) : Sem (ForInStep PUnit))
      pure ()) Q E s := by
    refine wpAny_bind (wpAny_dictEntries atb datb (wpAny_bind (wpAny_dictEpoch atb datb (wpAny_bind ?_))))
    refine wpAny_forIn_list _ (fun rest _ s' => ∃ h' i, s' = { s with heap := h' } ∧ rest = (List.range eb.size).drop i ∧ i ≤ eb.size ∧ h'.DictOfH knd d (storedAllH xs (ys.take i)) ∧ h'.DictOfH knd b ys ∧ h'.get? b = some ob ∧ Heap.SameBut d s.heap h') _ ?_ ?_ _ _
      ⟨s.heap, 0, rfl, rfl, Nat.zero_le _, by simpa [storedAllH] using m, m2, atb, Heap.SameBut.refl _ _⟩
    · rintro x rest u s' ⟨h', i, rfl, hr, hi, hd', hb', ho', sb⟩
      have lt : i < eb.size := by
        rcases Nat.lt_or_ge i eb.size with h | h
        · exact h
        · rw [List.drop_eq_nil_of_le (by rw [List.length_range]; exact h)] at hr; cases hr
      rw [List.drop_eq_getElem_cons (by rw [List.length_range]; exact lt)] at hr
      obtain ⟨ex, er⟩ := List.cons.inj hr
      rw [List.getElem_range] at ex
      subst ex
      refine wpAny_bind (wpAny_dictEntries ho' datb ?_)
      obtain ⟨⟨k, a, v⟩, hk⟩ : ∃ kv, ys[x]? = some kv := ⟨ys[x]'(by rw [← zb]; exact lt), List.getElem?_eq_getElem _⟩
      rw [entry_at enb x, hk]
      show wpAny _ _ (holding [.ref a, v] (dictPut d (knd.hash k) (.ref a) v) >>= _) _ _ _
      have zz : (storedAllH xs (ys.take x)).length ≤ sizeLine := by
        have e1 := storedAllH_length (ys.take x) xs
        have e2 : (ys.take x).length ≤ ys.length := by rw [List.length_take]; omega
        omega
      have hkey : knd.is h' k a := by
        obtain ⟨_, _, _, _, _, _, _, his', _⟩ := hb'
        exact his' (k, a, v) (List.mem_of_getElem? hk)
      refine wpAny_bind (wpAny_holding (put_heap (s := { s with heap := h' }) hu hkey hd' zz fun h2 hd2 sb2 => ?_))
      have ho2 : h2.get? b = some ob := (sb2.2 b (Ne.symm ne)).trans ho'
      refine wpAny_bind (wpAny_dictEpoch ho2 datb ?_)
      rw [if_neg (by simp)]
      exact wpAny_pure ⟨h2, x + 1, rfl, er, lt, by rw [storedAllH_take_succ xs ys x (k, a, v) hk]; exact hd2, hb'.notHere hd' ne sb2, ho2, sb.trans sb2⟩
    · rintro u s' ⟨h', i, rfl, hr, hi, hd', hb', ho', sb⟩
      have : i = eb.size := by
        rcases Nat.lt_or_ge i eb.size with h | h
        · rw [List.drop_eq_getElem_cons (by rw [List.length_range]; exact h)] at hr; cases hr
        · exact Nat.le_antisymm hi h
      rw [this, zb, List.take_length] at hd'
      exact wpAny_pure (q h' hd' hb' sb)
  split
  · rename_i emp
    have hx : xs = [] := by
      have h0 : ed = #[] := Array.isEmpty_iff.mp emp
      have := size_of_entries end_
      rw [h0] at this
      exact List.length_eq_zero_iff.mp (by simpa using this.symm)
    have ap' := ap.resolve_left fun h => h hx
    have far := keysApart (s := s) enb ap'.1 ap'.2
    refine wpAny_bind (wpAny_dictEntries atb datb (wpAny_bind ?_))
    rw [← Array.forIn_toList]
    refine wpAny_forIn_list _ (fun rest _ s' => s' = s ∧ ∀ e ∈ rest, KeyApart s eb e) _ ?_ ?_ _ _ ⟨rfl, far⟩
    · rintro e rest u s' ⟨rfl, all⟩
      have hrest : ∀ x ∈ rest, KeyApart s' eb x := fun x hx => all x (List.mem_cons_of_mem _ hx)
      rcases all e List.mem_cons_self with hv | ⟨a, hk, hT, h1⟩
      · cases he : e.key with
        | ref a => rw [he] at hv; exact absurd hv (by simp [carriedByValue])
        | _ => exact wpAny_pure ⟨rfl, hrest⟩
      · rw [hk]
        dsimp only
        refine wpAny_bind (wpAny_specialOf hT F.slot_tuple_eq.lookup ?_)
        rw [if_pos (by decide), if_neg (by omega)]
        exact wpAny_pure ⟨rfl, hrest⟩
    · rintro u s' ⟨rfl, _⟩
      exact loop
  · exact loop
end
section
variable {M : Model} {A : Around} {E : Value → Shared → Prop} {s : Shared}
theorem quiet_tail {d : Addr} {m : Value} {Q : Unit → Shared → Prop} {k1 k3 : Value → Sem Unit} {k2 : Value → Sem Unit} (h : wpAny M A (mergeMapping d m false) Q (fun _ _ => False) s) :
    wpAny M A ((((holding [.ref d, m] (mergeMapping d m false)).onRaise k1).tryCatch k2).onRaise k3) Q E s :=
  wpAny_onRaise (wpAny_tryCatch (wpAny_onRaise (wpAny_holding (wpAny_mono h (fun _ _ z => z) fun _ _ z => z.elim))))
theorem disp2 {t1 t2 : Sem Value} {Q : Value → Shared → Prop}
    (h : wpAny M A t1 (fun v1 s1 => wpAny M A (mergeMapping s.heap.objs.size v1 false) (fun _ s2 => wpAny M A t2 (fun v2 s3 => wpAny M A (mergeMapping s.heap.objs.size v2 false) (fun _ s4 => Q (.ref s.heap.objs.size) s4) (fun _ _ => False) s3) E s2) (fun _ _ => False) s1) E { s with heap := s.heap.push { cls := .type "dict", data := .dict #[] } }) :
    wpAny M A (dictDisplay [(none, t1), (none, t2)]) Q E s := by
  unfold dictDisplay
  simp only [List.forIn_cons, List.forIn_nil]
  refine wpAny_bind (wpAny_bind (wpAny_bind ?_))
  refine wpAny_ite_split (fun _ => ?_) fun z => absurd rfl z
  refine wpAny_pure ?_
  dsimp only
  refine wpAny_bind (wpAny_alloc ?_)
  refine wpAny_bind (wpAny_holding (wpAny_mono h (fun v1 s1 h1 => ?_) fun _ _ z => z))
  refine wpAny_bind (wpAny_mono (quiet_tail h1) (fun _ s2 h2 => ?_) fun _ _ z => z)
  refine wpAny_pure ?_
  dsimp only
  refine wpAny_bind (wpAny_bind ?_)
  refine wpAny_ite_split (fun _ => ?_) fun z => absurd rfl z
  refine wpAny_pure ?_
  dsimp only
  refine wpAny_bind (wpAny_pure ?_)
  refine wpAny_bind (wpAny_holding (wpAny_mono h2 (fun v2 s3 h3 => ?_) fun _ _ z => z))
  refine wpAny_bind (wpAny_mono (quiet_tail h3) (fun _ s4 h4 => ?_) fun _ _ z => z)
  refine wpAny_pure (wpAny_pure ?_)
  dsimp only
  refine wpAny_bind ?_
  refine wpAny_ite_split (fun _ => ?_) fun z => absurd rfl z
  exact wpAny_pure (wpAny_pure h4)
end
def mergeT (xs ys : List (List Key × V)) : List (List Key × V) := ys.foldl (fun acc kv => putK acc kv.1 kv.2) xs
theorem mergeT_len (ys : List (List Key × V)) : ∀ xs, (mergeT xs ys).length ≤ xs.length + ys.length := by
  induction ys with
  | nil => intro xs; exact Nat.le_refl _
  | cons y ys ih =>
    intro xs
    have a := ih (putK xs y.1 y.2)
    have b := length_putK xs y.1 y.2
    show (mergeT (putK xs y.1 y.2) ys).length ≤ xs.length + (ys.length + 1)
    omega
theorem kt_mergeT {H : Hp} {more : List (List Key × V)} {ys : List (List Key × Addr × Value)} (r : KT H more ys) : ∀ {kvs xs}, KT H kvs xs → KT H (mergeT kvs more) (storedAllH xs ys) := by
  unfold KT at r
  induction r with
  | nil => intro kvs xs q; exact q
  | @cons p y ps ys h t ih =>
    intro kvs xs q
    obtain ⟨h1, h2, h3⟩ := h
    have z := KT.put (k := p.1) q h2 h3
    rw [show storedH xs p.1 y.2.1 y.2.2 = storedH xs y.1 y.2.1 y.2.2 by rw [h1]] at z
    exact ih z
theorem paired_mergeT {α : Type} {R : V → α → Prop} {more : List (List Key × V)} {l' : List (Cell × α)} (h2 : Paired (fun (kv : List Key × V) (ka : Cell × α) => kv.1 = ck ka.1 ∧ R kv.2 ka.2) more l') : ∀ {kvs l}, Paired (fun (kv : List Key × V) (ka : Cell × α) => kv.1 = ck ka.1 ∧ R kv.2 ka.2) kvs l → Paired (fun (kv : List Key × V) (ka : Cell × α) => kv.1 = ck ka.1 ∧ R kv.2 ka.2) (mergeT kvs more) (dputs l l') := by
  induction h2 with
  | nil => intro kvs l q; exact q
  | @cons p y ps ys h t ih =>
    intro kvs l q
    have z := paired_put (f := ck) ck_inj (k := y.1) h.2 q
    rw [← h.1] at z
    exact ih z
/-- how a cell hashes -/
def hashC (prog : Program) (w : World) (c : Cell) : Int := (tupleKind (mixKind prog w)).hash (ck c)
section
variable {X : Cx} {pins : List (Addr × Obj)} {σ : L2.St} {H : Hp} {s : Shared} {d b : Addr} {A : Around} {E : Value → Shared → Prop} {kvs more : List (List Key × V)}
theorem d_merge {Q : Unit → Shared → Prop} (hu : A.units + 1 < cLine) (I : L2.Inv X pins σ H s) (e : H d = some (.dT kvs)) (e2 : Rd H b (.dT more)) (ne : d ≠ b) (hz : kvs.length + more.length ≤ sizeLine) (ap : kvs ≠ [] ∨ (more.map fun kv => (tupleKind (mixKind X.prog X.w)).hash kv.1).Nodup)
    (h : ∀ s', L2.Inv X pins σ (upd H d (.dT (mergeT kvs more))) s' → Q () s') : wpAny (model X.prog X.w) A (mergeMapping d (.ref b) false) Q E s := by
  obtain ⟨z1, hd, xs, rel, dd⟩ := dt_of I.hok e
  obtain ⟨z2, hb, ys, rel2, db⟩ := dt_rd I.hok e2
  have lx : xs.length = kvs.length := (Paired.length rel).symm
  have ly : ys.length = more.length := (Paired.length rel2).symm
  have ty : ∀ x ∈ ys, s.TypeIs (.ref x.2.1) "tuple" := fun x hx => by
    obtain ⟨_, _, _, _, _, _, _, all, _⟩ := id db
    obtain ⟨o, its, n, h1, h2, _⟩ := all x hx
    exact ⟨o, h1, h2⟩
  have hh : (more.map fun kv => (tupleKind (mixKind X.prog X.w)).hash kv.1) = ys.map fun x => (tupleKind (mixKind X.prog X.w)).hash x.1 := by
    clear z2 db ly ty ap hz e2 h
    unfold KT at rel2
    induction rel2 with
    | nil => rfl
    | cons p _ ih => rw [List.map_cons, List.map_cons, ih, p.1]
  refine merge_heap (Nat.lt_of_succ_lt hu) ne hb dd db (by omega) (ap.imp (fun n z => n (List.length_eq_zero_iff.mp (by rw [← lx, z]; rfl))) fun n => ⟨ty, hh ▸ n⟩) fun h' dd' _ sb => h _ ?_
  obtain ⟨q, es, ep, hq, h2, h3, h4, _, h5⟩ := dd'
  have hl : (mergeT kvs more).length ≤ sizeLine := Nat.le_trans (mergeT_len more kvs) hz
  refine d_write (t' := s.toks) I (by rw [e]; exact True.intro) sb ⟨q, hq⟩ ⟨hl, hd, _, (kt_mergeT rel2 rel).keeps fun c ys ec => ?_, q, es, ep, hq, h2, h3, h4, h5⟩
  rw [upd_ne (ne_of ec e (fun z => nomatch z))]
  exact ec
end
section
variable {X : Cx} {σ : L2.St} {K : Hp} {α β : Type} {r1 : Rel α} {r2 : Rel β} {l1 : List (Cell × α)} {l2 : List (Cell × β)}
theorem hash_keys {P : Program} {w : World} {α : Type} {R : V → α → Prop} {kvs : List (List Key × V)} {l : List (Cell × α)} (h : Paired (fun (kv : List Key × V) (ka : Cell × α) => kv.1 = ck ka.1 ∧ R kv.2 ka.2) kvs l) :
    (kvs.map fun kv => (tupleKind (mixKind P w)).hash kv.1) = l.map fun x => hashC P w x.1 := by
  induction h with
  | nil => rfl
  | cons p _ ih => rw [List.map_cons, List.map_cons, ih, p.1]; rfl
theorem pairU {α : Type} {R : V → α → Prop} {K : Hp} {kvs : List (List Key × V)} {l : List (Cell × α)} (h : Paired (fun (kv : List Key × V) (ka : Cell × α) => kv.1 = ck ka.1 ∧ R kv.2 ka.2) kvs l) : Paired (fun (kv : List Key × V) (ka : Cell × Unit) => kv.1 = ck ka.1 ∧ rAny.r K kv.2 ka.2) kvs (keysU l) := by
  unfold keysU
  induction h with
  | nil => exact .nil
  | cons q _ ih => exact .cons ⟨q.1, trivial⟩ ih
theorem putK_ne {xs : List (List Key × V)} {k : List Key} {v : V} : putK xs k v ≠ [] := by
  unfold putK
  split
  · rename_i h
    intro z
    rw [List.map_eq_nil_iff.mp z] at h
    cases h
  · simp
theorem mergeT_ne (ys : List (List Key × V)) : ∀ {xs : List (List Key × V)}, xs ≠ [] → mergeT xs ys ≠ [] := by
  induction ys with
  | nil => intro xs h; exact h
  | cons y ys ih => intro xs _; exact ih putK_ne
/-- {**e1, **e2}: its keys -/
theorem ev_merge {e1 e2 : Expr} {pos : Pos} (hu : X.A.units + 1 < cLine) (h1 : EV X e1 σ K (rDC r1) l1) (h2 : EV X e2 σ K (rDC r2) l2) (hz : l1.length + l2.length ≤ sz) (d1 : (l1.map fun x => hashC X.prog X.w x.1).Nodup) (d2 : l1 = [] → (l2.map fun x => hashC X.prog X.w x.1).Nodup) :
    EV X (.Dict [none, none] [e1, e2] pos) σ K (rDC rAny) (dputs (dputs [] (keysU l1)) (keysU l2)) := fun H l Q q pins s I => by
  have e3 : (1000000 : Nat) < sizeLine := by decide
  simp only [sz] at hz
  let d : Addr := s.heap.objs.size
  have hd : H d = none := I.hok.fresh (Nat.le_refl _)
  have hkd : K d = none := l.fresh hd
  have I0 := I.laid (a := d) (o := .dT []) (t' := s.toks) (fun _ _ q => Heap.get?_push_of_some _ q) (Nat.le_refl _) (dt_empty s.heap I.big)
  show wpAny _ _ (do standAt pos; dictDisplay [(none, do let x ← eval e1 X.env; standAt pos; pure x), (none, do let x ← eval e2 X.env; standAt pos; pure x)]) _ _ _
  refine wpAny_bind (wpAny_standAt (disp2 ?_))
  refine wpAny_bind (thn (h1 _ (le_mut l hkd) (fun v H1 => ∃ K1, Nxt K (upd H d (.dT [])) K1 H1 ∧ (rDC r1).r K1 v l1) (fun v K1 H1 n hv => ⟨K1, n, hv⟩) pins _ I0) fun u s1 ⟨v, H1, I1, rv, K1, n1, hv⟩ => wpAny_bind (wpAny_standAt (wpAny_pure ?_)))
  obtain ⟨a, kvs, rfl, ha, hp⟩ := hv
  obtain rfl : u = Value.ref a := rv
  have hd1 : H1 d = some (.dT []) := n1.same d _ upd_same
  have hk1 : K1 d = none := n1.out d _ upd_same rfl hkd
  have ra : Rd H1 a (.dT kvs) := co_dT.mp (n1.in_ a _ ha)
  have da : d ≠ a := fun z => by
    have := ha
    rw [← z] at this
    unfold co at this
    rw [hk1] at this; cases this
  have la := paired_len hp
  refine d_merge hu I1 hd1 ra da (by show 0 + kvs.length ≤ sizeLine; omega) (.inr (hash_keys hp ▸ d1)) fun s2 I2 => ?_
  have l1' : Le K1 (upd H1 d (.dT (mergeT [] kvs))) := le_mut n1.in_ hk1
  refine wpAny_bind (thn (h2.mono n1.le _ l1' (fun v H3 => ∃ K3, Nxt K1 (upd H1 d (.dT (mergeT [] kvs))) K3 H3 ∧ (rDC r2).r K3 v l2) (fun v K3 H3 n hv => ⟨K3, n, hv⟩) pins _ I2) fun u s3 ⟨v, H3, I3, rv, K3, n3, hv⟩ => wpAny_bind (wpAny_standAt (wpAny_pure ?_)))
  obtain ⟨b, kvs2, rfl, hb, hp2⟩ := hv
  obtain rfl : u = Value.ref b := rv
  have hd3 : H3 d = some (.dT (mergeT [] kvs)) := n3.same d _ upd_same
  have hk3 : K3 d = none := n3.out d _ upd_same rfl hk1
  have rb : Rd H3 b (.dT kvs2) := co_dT.mp (n3.in_ b _ hb)
  have db : d ≠ b := fun z => by
    have := hb
    rw [← z] at this
    unfold co at this
    rw [hk3] at this; cases this
  have lb := paired_len hp2
  have pm : Paired (fun (kv : List Key × V) (ka : Cell × Unit) => kv.1 = ck ka.1 ∧ rAny.r K3 kv.2 ka.2) (mergeT [] kvs) (dputs [] (keysU l1)) := by
    exact paired_mergeT (pairU hp) .nil
  have lm : (mergeT [] kvs).length ≤ kvs.length := by have := mergeT_len kvs []; simpa using this
  refine d_merge hu I3 hd3 rb db (by omega) ?_ fun s4 I4 => ?_
  · rcases l1 with _ | ⟨x, l1⟩
    · exact .inr (hash_keys hp2 ▸ d2 rfl)
    · refine .inl ?_
      cases hp with
      | @cons p _ ps _ _ _ => exact mergeT_ne ps (xs := putK [] p.1 p.2) putK_ne
  · have e4 : Nxt K H K1 (era H1 d) := by have := n1.era hkd upd_same rfl; rw [era_upd, era_none hd] at this; exact this
    have e5 : Nxt K1 (era H1 d) K3 (era H3 d) := by have := n3.era hk1 upd_same rfl; rw [era_upd] at this; exact this
    have e6 : Nxt K H K3 (era (upd H3 d (.dT (mergeT (mergeT [] kvs) kvs2))) d) := by rw [era_upd]; exact e4.trans e5
    exact ⟨.ref d, _, I4, rfl, q _ _ _ (e6.pubE upd_same) ⟨d, _, rfl, co_dT.mpr (.inl upd_same), paired_mergeT (R := rAny.r _) (pairU hp2) pm⟩⟩
end
end SN
end TQDD

section TQCA
set_option Elab.async false
set_option linter.all false
set_option maxRecDepth 100000
set_option maxHeartbeats 4000017
/-! QCA: cells_after. -/
namespace SN
open PySem PySem.Spec PyProof.Rows L2
abbrev stAfter : Stmt := top 55
def keepC {β : Type} (b : List (Cell × β)) (wd : Str) (c : Cell) : Bool := decide ((dget b c).isSome = decide (wd = ("met" : Str)))
def afterF {α β : Type} (a : List (Cell × α)) (b : List (Cell × β)) (wd : Str) : List (Cell × Unit) :=
  if wd = ("joined" : Str) then dputs (dputs [] (keysU a)) (keysU b) else keysU (dputs [] (((a.map (fun x => x.1)).filter (keepC b wd)).map tru))
structure AfterOk (P : Program) (w : World) {α β : Type} (a : List (Cell × α)) (b : List (Cell × β)) : Prop where
  z : a.length + b.length ≤ sz
  d1 : (a.map fun x => hashC P w x.1).Nodup
  d2 : (b.map fun x => hashC P w x.1).Nodup
abbrev NAfter : List Str := ["mine", "their", "word", "cell"]
section
variable {P : Program} {w : World} {F : PySem.W.Frag} {mg : Str → Option Value} {base : Heap} {α β : Type} {r1 : Rel α} {r2 : Rel β}
abbrev spAfter (P : Program) (w : World) (r1 : Rel α) (r2 : Rel β) : Sp := sp3 (rDC r1) (rDC r2) rStr (rDC rAny) (fun a b _ => AfterOk P w a b) afterF
theorem df_after (G : FnF F mg "cells_after" stAfter ["mine", "their", "word"]) : Df P w F mg base 1 "cells_after" (spAfter P w r1 r2) := by
  have S : FnScope NAfter ["mine", "their", "word"] (defScope stAfter) := ⟨rfl, rfl, rfl, by decide +kernel, rfl, by decide +kernel, by decide +kernel⟩
  refine df_fn (N := NAfter) G S (fun vs H Q E ⟨K, v, a, u, b, t, c, e, _⟩ => by rw [e]; rfl) ?_
  rintro X _ H Q E f cdv A outer s rfl hr ⟨K, va, a, vb, b, vw, wd, rfl, l, h1, h2, h3, ok, q⟩
  have hu := hu_of hr
  refine ss_cons (s_if (b := decide (wd = ("joined" : Str))) l (et_eqS (ev_name 2 rfl h3) ev_str) (fun e H1 s1 l1 => ?_) fun e H1 s1 l1 => ?_)
  · have e := of_decide_eq_true e
    have ea : afterF a b wd = dputs (dputs [] (keysU a)) (keysU b) := if_pos e
    exact ss_one (s_ret l1 (ev_merge hu (ev_name 0 rfl h1) (ev_name 1 rfl h2) ok.z ok.d1 fun _ => ok.d2) fun v K' H' n hv => q v K' H' ((Nxt.same1 l s1).trans n) (ea ▸ hv))
  · have e := of_decide_eq_false e
    have ea : afterF a b wd = keysU (dputs [] (((a.map (fun x => x.1)).filter (keepC b wd)).map tru)) := if_neg e
    refine ss_nil (ss_one ?_)
    obtain ⟨d, kvs, rfl, hd, hp⟩ := h1
    refine s_ret l1 (ev_cdL (u := .dT kvs) (d := d) (.inr (.inl ⟨kvs, rfl⟩)) hd (cd_dC (own := [("cell", 3)]) (p := keepC b wd) (xs := List.map (fun x : Cell × α => x.1) a) (f := tru) (rr := rBl) (r := rCell) hu rfl S.nd (es_keysC (ev_name 0 rfl rfl) ⟨d, kvs, rfl, hd, hp⟩) (blkOk_by (N := NAfter) (sc := defScope stAfter) (by decide +kernel)) (fun _ _ _ _ _ => pg_name (i := 3) S.nd rfl (Or.inl rfl)) ?_ ?_)) fun v K' H' n hv => q v K' H' ((Nxt.same1 l s1).trans n) (ea ▸ rKs_of hv)
    · rw [List.length_map]; exact Nat.le_trans (Nat.le_add_right _ _) ok.z
    · exact fun i c K2 x ex l2 hx => ⟨_, gd_name, wipe_t (by decide), fun s H0 C cl fp => ⟨et_eqB (ev_inC hu (ev_name 3 rfl hx) (ev_name 1 rfl ((rDC r2).mono l2 h2))) (ev_eqS (ev_name 2 rfl (rStr.mono l2 h3)) ev_str), fun _ => ⟨ev_name 3 rfl hx, ev_bl⟩⟩⟩
end
end SN
end TQCA

section TQOP
set_option Elab.async false
set_option linter.all false
set_option maxRecDepth 100000
set_option maxHeartbeats 4000017
/-! QOP: Marked.operated, joined, cut, met. -/
namespace SN
open PySem PySem.Spec PyProof.Rows L2
abbrev acr (q : Sq) : Sq := (nb q.1 q.2, opp q.2)
/-- the mark of a square of the result -/
def opQ (old new : Marks) (q : Sq) : Str := if (dget old q).isSome = true then (dget old q).getD default else if (dget new q).isSome = true then (dget new q).getD default else (dget new (acr q)).getD default
def opL (M T : Mkd) : Lines := mergedF M.1 T.1
def opC (M T : Mkd) (wd : Str) : List (Cell × Unit) := afterF (onC M (opL M T)) (onC T (opL M T)) wd
def opPair (old new : Marks) (q : Sq) : Sq × Str := (q, opQ old new q)
def opM (M T : Mkd) (wd : Str) : Marks := dputs [] ((surfOf (opC M T wd)).map (opPair (onM M (opL M T)) (onM T (opL M T))))
def opF (M T : Mkd) (wd : Str) : Mkd := mkS (opL M T) ((opC M T wd).map (fun x => x.1)) (opM M T wd)
structure OpOk (P : Program) (w : World) (M T : Mkd) (wd : Str) : Prop where
  a1 : ∀ x ∈ M.1, x.length < 32
  a2 : ∀ x ∈ T.1, x.length < 32
  a3 : M.1.length ≤ 1000
  o1 : OnOk M (opL M T)
  o2 : OnOk T (opL M T)
  af : AfterOk P w (onC M (opL M T)) (onC T (opL M T))
  z1 : (opC M T wd).length ≤ 100000
  z2 : (surfOf (opC M T wd)).length ≤ sz
  has : ∀ q ∈ surfOf (opC M T wd), (dget (onM M (opL M T)) q).isSome = false → (dget (onM T (opL M T)) q).isSome = false → (dget (onM T (opL M T)) (acr q)).isSome = true
  simp : SimpOk (opL M T) (cdict ((opC M T wd).map (fun x => x.1))) (opM M T wd)
abbrev stOp : Stmt := mth 56 8
abbrev NOp : List Str := ["self", "tool", "word", "lines", "mine", "old", "their", "new", "cells", "marks", "cell", "side", "square", "across"]
/-- the defs that operated asks -/
structure DoOk (P : Program) (w : World) (F : PySem.W.Frag) (mg : Str → Option Value) (base : Heap) (CM : Addr) : Prop where
  dm : Df P w F mg base 2 "merged_lines" (sp2 (rTupL F (rTupL F rInt)) (rTupL F (rTupL F rInt)) (rTupL F (rTupL F rInt)) (fun a b => (∀ x ∈ a, x.length < 32) ∧ (∀ x ∈ b, x.length < 32) ∧ a.length ≤ 1000) mergedF)
  dc : Df P w F mg base 2 "coarse_cells" (spCoarse F rBl)
  s1 : Df P w F mg base 3 "surface_squares" (spSurf F rCell)
  s2 : Df P w F mg base 3 "surface_squares" (spSurf F rAny)
  dn : Df P w F mg base 2 "neighbor" (sp2 rCell rSd rCell (fun _ _ => True) nb)
  da : Df P w F mg base 1 "cells_after" (spAfter P w rCell rCell)
  on : MtF F CM "on_lines" "Marked.on_lines" stOn ["self", "lines"]
abbrev sp3E {α β γ δ : Type} (CT : Addr) (r1 : Rel α) (r2 : Rel β) (r3 : Rel γ) (r : Rel δ) (pre : α → β → γ → Prop) (okf : α → β → γ → Bool) (f : α → β → γ → δ) : Sp := fun vs H Q E => ∃ K v a u b t c, vs = [v, u, t] ∧ Le K H ∧ r1.r K v a ∧ r2.r K u b ∧ r3.r K t c ∧ pre a b c ∧ (okf a b c = true → ∀ w K' H', Nxt K H K' H' → r.r K' w (f a b c) → Q w H') ∧ (okf a b c = false → Out CT K H E)
section
variable {P : Program} {w : World} {F : PySem.W.Frag} {mg : Str → Option Value} {base : Heap} {CS CG CM CT : Addr}
abbrev spOp (P : Program) (w : World) (F : PySem.W.Frag) (CM CT : Addr) : Sp := sp3E CT (rMk P w F CM) (rMk P w F CM) rStr (rMk P w F CM) (OpOk P w) (fun M T wd => fewF (opF M T wd).1) opF
theorem fr_op {f : Addr} (T : TX w F mg) (Cs : CsOk P w F mg CS CG CM CT) (Ds : DsOk P w F mg base CT) (Do : DoOk P w F mg base CM) (G : FnAt F f "operated" "Marked.operated" stOp ["self", "tool", "word"]) : FnR P w F mg base (L2.CX P w) 7 f (spOp P w F CM CT) := by
  have S : FnScope NOp ["self", "tool", "word"] (defScope stOp) := ⟨rfl, rfl, rfl, by decide +kernel, rfl, by decide +kernel, by decide +kernel⟩
  refine fr_fn (N := NOp) G S (fun vs H Q E ⟨K, v, a, u, b, t, c, e, _⟩ => by rw [e]; rfl) ?_
  rintro X _ H Q E cdv A outer s rfl hr ⟨K, vm, M, vt, N, vw, wd, rfl, le, h1, h2, h3, ok, qt, qf⟩
  have hu := hu_of hr
  have hu64 := hr.units
  obtain ⟨fo, mo, go⟩ := Do.on
  have Fo := fr_on Cs.mkd Do.dc Do.s1 go
  -- lines
  refine ss_cons (s_asg (i := 3) (r := rTupL F (rTupL F rInt)) (a := opL M N) S.nd rfl (Or.inl rfl) le (ev_call2 (a := M.1) (b := N.1) Do.dm (hr.mono (by decide)) (ev_ml (s := M) Cs.mkd (ev_name 0 rfl h1)) (ev_ml (s := N) Cs.mkd (ev_name 1 rfl h2)) ⟨ok.a1, ok.a2, ok.a3⟩) fun v3 K1 H1 n1 hl => ?_)
  -- mine, old
  refine ss_cons (s_asgG (g := gt2 F 4 5) (r := rTup2 F (rDC rCell) (rDN P w rStr)) (a := onF M (opL M N)) (pg_n2 4 5 rfl S.nd rfl rfl (Or.inl rfl) (Or.inl rfl) (Or.inl rfl) (Or.inl rfl)) n1.in_ (ev_m2 (b := M) (a := opL M N) Cs.mkd.cl insR_mk mo Fo (hr.mono (by decide)) (ev_name 0 rfl ((rMk P w F CM).mono n1.le h1)) (ev_name 3 rfl hl) ok.o1) fun v2 K2 H2 n2 ⟨p2, x1, y1, e2, hp2, hx1, hy1⟩ => ?_)
  subst e2
  refine gd_tup2 hp2 gd_name gd_name H2 n2.in_ _ ?_
  have k2 := n1.trans n2
  -- their, new
  refine ss_cons (s_asgG (g := gt2 F 6 7) (r := rTup2 F (rDC rCell) (rDN P w rStr)) (a := onF N (opL M N)) (pg_n2 6 7 rfl S.nd rfl rfl (Or.inl rfl) (Or.inl rfl) (Or.inl rfl) (Or.inl rfl)) n2.in_ (ev_m2 (b := N) (a := opL M N) Cs.mkd.cl insR_mk mo Fo (hr.mono (by decide)) (ev_name 1 rfl ((rMk P w F CM).mono k2.le h2)) (ev_name 3 rfl ((rTupL F (rTupL F rInt)).mono n2.le hl)) ok.o2) fun v4 K3 H3 n3 ⟨p4, x2, y2, e4, hp4, hx2, hy2⟩ => ?_)
  subst e4
  refine gd_tup2 hp4 gd_name gd_name H3 n3.in_ _ ?_
  -- cells
  refine ss_cons (s_asg (i := 8) (r := rDC rAny) (a := opC M N wd) S.nd rfl (Or.inl rfl) n3.in_ (ev_call3 (a := onC M (opL M N)) (b := onC N (opL M N)) (c := wd) Do.da (hr.mono (by decide)) (ev_name 4 rfl ((rDC rCell).mono n3.le hx1)) (ev_name 6 rfl hx2) (ev_name 2 rfl (rStr.mono (k2.trans n3).le h3)) ok.af) fun v5 K4 H4 n4 hc => ?_)
  -- marks
  refine ss_cons (s_newN (i := 9) S.nd rfl (Or.inl rfl) fun p hp => ?_)
  have nE : era (upd H4 p (NdO P w p [])) p = H4 := by rw [era_upd, era_none hp]
  have ho := (rDN P w rStr).mono (n3.trans n4).le hy1
  have hn := (rDN P w rStr).mono n4.le hy2
  have eb : ((surfOf (opC M N wd)).flatMap fun q => [opPair (onM M (opL M N)) (onM N (opL M N)) q]) = (surfOf (opC M N wd)).map (opPair (onM M (opL M N)) (onM N (opL M N))) := by
    induction surfOf (opC M N wd) with
    | nil => rfl
    | cons x l ih => rw [List.flatMap_cons, List.map_cons, ih]; rfl
  refine ss_sd (bs := (surfOf (opC M N wd)).map (opPair (onM M (opL M N)) (onM N (opL M N)))) (ys := []) (F := fillDN P w p rStr) (Sg := fun σ => ∃ a b c d, σ = [some vm, some vt, some vw, some v3, some x1, some y1, some x2, some y2, some v5, some (.ref p), a, b, c, d]) ?_ (by show Le K4 (era (upd H4 p (NdO P w p [])) p); rw [nE]; exact n4.in_) upd_same ((fillDN P w p rStr).nil K4) (by rw [List.length_map]; simpa using ok.z2) fun σ5 K5 H5 o5 sg n5 e5 ob5 => ?_
  · rw [← eb]
    refine sd_for (K := K4) (r := rSq F) (xs := surfOf (opC M N wd)) (em := fun q => [opPair (onM M (opL M N)) (onM N (opL M N)) q]) (g := gt2 F 10 11) (passes_of rfl) rfl (pg_n2 10 11 rfl S.nd rfl rfl (Or.inl rfl) (Or.inl rfl) (Or.inl rfl) (Or.inl rfl)) ⟨_, _, _, _, rfl⟩ (es_list (ev_call1 (a := opC M N wd) Do.s2 (hr.mono (by decide)) (ev_name 8 rfl hc) ok.z1)) ?_
    rintro i q σ' K6 x ea ⟨a1, a2, a3, a4, rfl⟩ l6 ⟨pq, pc, e6, g1, g2⟩
    subst e6
    have hq := List.mem_of_getElem? ea
    have hoK := (rDN P w rStr).mono l6 ho
    have hnK := (rDN P w rStr).mono l6 hn
    refine ⟨_, gd_tup2 (SqT.of (co_tup.mp g1)) gd_name gd_name, ?_⟩
    refine sd_let (R := fun σ2 K2 => ∃ u d, σ2 = [some vm, some vt, some vw, some v3, some x1, some y1, some x2, some y2, some v5, some (.ref p), some (.ref pc), some (.str (sname q.2)), some u, d] ∧ (rSq F).r K2 u q) (fun K7 H7 l7 l8 D k7 => ?_) ?_
    · exact s_asg (i := 12) (r := rSq F) (a := q) S.nd rfl (Or.inl rfl) l8 (ev_sq (ev_name 10 rfl ⟨pc, rfl, l7 _ _ g2⟩) (ev_name 11 rfl rfl)) fun v K8 H8 n8 hv => k7 _ K8 H8 n8 ⟨v, _, rfl, hv⟩
    · rintro σ2 K7 l7 ⟨u, d7, rfl, hu7⟩
      refine sd_let (R := fun σ2 K2 => ∃ u2, σ2 = [some vm, some vt, some vw, some v3, some x1, some y1, some x2, some y2, some v5, some (.ref p), some (.ref pc), some (.str (sname q.2)), some u, some u2] ∧ (rSq F).r K2 u2 (acr q)) (fun K8 H8 l8 l9 D k8 => ?_) ?_
      · obtain ⟨po, mo2, ko⟩ := T.oppOf
        have cv : rCell.r K8 (.ref pc) q.1 := ⟨pc, rfl, (l7.trans l8) _ _ g2⟩
        exact s_asg (i := 13) (r := rSq F) (a := acr q) S.nd rfl (Or.inl rfl) l9 (ev_sq (ev_call2 (a := q.1) (b := q.2) Do.dn (hr.mono (by decide)) (ev_name 10 rfl cv) (ev_name 11 rfl rfl) trivial) (ev_ks (r := rSd) (a := opp q.2) (s := q.2) mo2 ko (ev_name 11 rfl rfl) fun _ => rfl)) fun v K9 H9 n9 hv => k8 _ K9 H9 n9 ⟨v, rfl, hv⟩
      · rintro σ2 K8 l8 ⟨u2, rfl, hu8⟩
        have h7 := (rSq F).mono l8 hu7
        have ll := l7.trans l8
        have o8 := (rDN P w rStr).mono ll hoK
        have n8 := (rDN P w rStr).mono ll hnK
        refine sd_one (sd_dputN hu64 ⟨_, _, _, _, rfl⟩ (r := rStr) (a := opQ (onM M (opL M N)) (onM N (opL M N)) q) (ev_ifexp (b := (dget (onM M (opL M N)) q).isSome) (et_inN hu64 (ev_name 12 rfl h7) (ev_name 5 rfl o8)) (fun e => ?_) fun e => ev_ifexp (b := (dget (onM N (opL M N)) q).isSome) (et_inN hu64 (ev_name 12 rfl h7) (ev_name 7 rfl n8)) (fun e2 => ?_) fun e2 => ?_) (ev_name 9 rfl rfl) (ev_name 12 rfl h7))
        · have z : opQ (onM M (opL M N)) (onM N (opL M N)) q = (dget (onM M (opL M N)) q).getD default := if_pos e
          rw [z]
          exact ev_dgetN hu64 (ev_name 5 rfl o8) (ev_name 12 rfl h7) (getD_of e)
        · have z : opQ (onM M (opL M N)) (onM N (opL M N)) q = (dget (onM N (opL M N)) q).getD default := by unfold opQ; rw [if_neg (by rw [e]; exact Bool.false_ne_true), if_pos e2]
          rw [z]
          exact ev_dgetN hu64 (ev_name 7 rfl n8) (ev_name 12 rfl h7) (getD_of e2)
        · have z : opQ (onM M (opL M N)) (onM N (opL M N)) q = (dget (onM N (opL M N)) (acr q)).getD default := by unfold opQ; rw [if_neg (by rw [e]; exact Bool.false_ne_true), if_neg (by rw [e2]; exact Bool.false_ne_true)]
          rw [z]
          exact ev_dgetN hu64 (ev_name 7 rfl n8) (ev_name 13 rfl hu8) (getD_of (ok.has q hq e e2))
  obtain ⟨c1, c2, c3, c4, rfl⟩ := sg
  have nE' : era (upd H4 p (NdO P w p [])) p = H4 := nE
  have n5' : Nxt K4 H4 K5 (era H5 p) := nE' ▸ n5
  have hk5 : K5 p = none := le_era_none n5'.in_
  have np := n5'.pubE e5
  have hm := fin_dN ob5 hk5
  have l5 : Le K4 (upd K5 p o5) := np.le
  have nn := ((k2.trans n3).trans n4).trans np
  refine ss_one (s_retE (CT := CT) (E := E) nn.in_ (ev_marked (X := cxD P w F mg base NOp "Marked.operated" stOp f cdv A outer s H E) (ls := opL M N) (cs := opC M N wd) (ms := opM M N wd) T Cs Ds hr (passE []) (ev_name 3 rfl ((rTupL F (rTupL F rInt)).mono (((n2.trans n3).trans n4).le.trans l5) hl)) (ev_name 8 rfl ((rDC rAny).mono l5 hc)) (ev_name 9 rfl hm) (Nat.le_trans ok.z1 (by decide)) ok.simp) (fun ek v K' H' n hv => qt ek v K' H' (nn.trans n) hv) fun ek => (qf ek).nxt nn)
end
end SN
end TQOP

section TQMO
set_option Elab.async false
set_option linter.all false
set_option maxRecDepth 100000
set_option maxHeartbeats 4000017
/-! QMO: joined, cut, met, to_solid, nothing, block. -/
namespace SN
open PySem PySem.Spec PyProof.Rows L2 NdefX
section
variable {X : Cx} {α β γ δ : Type} {σ : L2.St} {K H : Hp} {CT C : Addr} {E : XK} {rr : Rel δ} {r1 : Rel β} {b : β} {r2 : Rel α} {a : α} {r3 : Rel γ} {c3 : γ}
/-- what cannot raise is data -/
theorem ev_ok {e : Expr} {ok : Bool} {r : Rel δ} {z : δ} (h : EVE X CT E0' e σ K ok r z) (e1 : ok = true) : EV X e σ K r z := fun H l Q q => h H l Q (fun _ v K' H' n hv => q v K' H' n hv) fun e2 => Bool.noConfusion (e1.symm.trans e2)
/-- o.m(e1, e2) -/
theorem ev_m3E {k : Nat} {f : Addr} {m : Str} {o e1 e2 : Expr} {apos pos : Pos} {pl : Sem Bool} {pre : β → α → γ → Prop} {okf : β → α → γ → Bool} {fn : β → α → γ → δ} (c : Cls X.K C) (hI : InsR C m r1) (hm : Meth X.K C m f) (F : FnR X.prog X.w X.K X.mg X.base (L2.CX X.prog X.w) k f (sp3E CT r1 r2 r3 rr pre okf fn)) (hr : Room k X.A) (hx : Passes (L2.CX X.prog X.w) X E)
    (ho : EV X o σ K r1 b) (h1 : EV X e1 σ K r2 a) (h2 : EV X e2 σ K r3 c3) (hp : pre b a c3)
    (hst : starEach [e1, e2] X.env = (false, eval e1 X.env) :: starEach [e2] X.env := by rfl) (hst2 : starEach [e2] X.env = (false, eval e2 X.env) :: starEach [] X.env := by rfl) (hpl : (backTo pos (starEach [e2] X.env)).any (·.1) = false := by rfl)
    (ht : eval (.Call (.Attribute o m apos) [e1, e2] [] pos) X.env = (do
      let v ← eval o X.env
      standAt apos.atName
      let (g, fst) ← holding [v] (getMethod v m pl)
      callWith pos g fst (backTo pos (starEach [e1, e2] X.env)) (backToKw pos (keywordEach [] X.env))) := by rfl) :
    EVE X CT E (.Call (.Attribute o m apos) [e1, e2] [] pos) σ K (okf b a c3) rr (fn b a c3) := fun H l Q q qe =>
  PE.to (pe_methR (peW o) c hm F hr hx (paW [e1, e2]) hst hpl ht) (ho H l _ fun v K1 H1 n1 hv => by
    obtain ⟨p, dx, fs, e, g1, g2⟩ := hI K1 v b hv
    subst e
    exact ⟨p, dx, fs, rfl, co_ins.mp (n1.in_ p _ g1), g2, (ea_cons (h1.mono n1.le) (ea_1 (h2.mono n1.le) hst2) (mo_cons mo_nil) hst) H1 n1.in_ _ fun vs K2 H2 n2 ⟨u, _, e1, hu, t, _, e2, ht, e3⟩ => by
      subst e3; subst e2; subst e1
      exact ⟨K2, .ref p, b, u, a, t, c3, rfl, n2.in_, r1.mono n2.le hv, hu, ht, hp, fun ek w K3 H3 n3 hw => q ek w K3 H3 ((n1.trans n2).trans n3) hw, fun ek => (qe ek).nxt (n1.trans n2)⟩⟩)
end
/-! ### joined, cut, met -/
def OpOk2 (P : Program) (w : World) (wd : Str) (M T : Mkd) : Prop := OpOk P w M T wd ∧ fewF (opF M T wd).1 = true
abbrev spWd (P : Program) (w : World) (F : PySem.W.Frag) (CM : Addr) (wd : Str) : Sp := sp2 (rMk P w F CM) (rMk P w F CM) (rMk P w F CM) (OpOk2 P w wd) fun M T => opF M T wd
/-- the body of such a method -/
def BodyWd (st : Stmt) (wd : Str) : Prop := ∃ p1 p2 p3 p4 j p5 p6 p7, defBody st = [.Return (some (.Call (.Attribute (.Name "self" p1) "operated" p2) [.Name "tool" p3, .Constant (.str wd) j p4] [] p5)) p6] ∧ p7 = p6
abbrev NWd : List Str := ["self", "tool"]
section
variable {P : Program} {w : World} {F : PySem.W.Frag} {mg : Str → Option Value} {base : Heap} {CS CG CM CT : Addr}
theorem fr_joined {f : Addr} (T : TX w F mg) (Cs : CsOk P w F mg CS CG CM CT) (Ds : DsOk P w F mg base CT) (Do : DoOk P w F mg base CM) (O : MtF F CM "operated" "Marked.operated" stOp ["self", "tool", "word"]) (G : FnAt F f "joined" "Marked.joined" (mth 56 9) ["self", "tool"]) :
    FnR P w F mg base (L2.CX P w) 8 f (spWd P w F CM "joined") := by
  have S : FnScope NWd ["self", "tool"] (defScope (mth 56 9)) := ⟨rfl, rfl, rfl, by decide +kernel, rfl, by decide +kernel, by decide +kernel⟩
  refine fr_fn (N := NWd) G S (fun vs H Q E ⟨K, v, a, u, b, e, _⟩ => by rw [e]; rfl) ?_
  rintro X _ H Q E cdv A outer s rfl hr ⟨K, vm, M, vt, N, rfl, le, h1, h2, ⟨ok, few⟩, q⟩
  obtain ⟨fo, mo, go⟩ := O
  exact ss_one (s_ret le (ev_ok (ok := fewF (opF M N "joined").1) (z := opF M N "joined") (ev_m3E (fn := opF) (okf := fun M T wd => fewF (opF M T wd).1) (pre := OpOk P w) (CT := CT) (b := M) (a := N) (c3 := ("joined" : Str)) Cs.mkd.cl insR_mk mo (fr_op T Cs Ds Do go) hr passL' (ev_name 0 rfl h1) (ev_name 1 rfl h2) ev_str ok) few) fun v K' H' n hv => q v K' H' n hv)
theorem fr_cut {f : Addr} (T : TX w F mg) (Cs : CsOk P w F mg CS CG CM CT) (Ds : DsOk P w F mg base CT) (Do : DoOk P w F mg base CM) (O : MtF F CM "operated" "Marked.operated" stOp ["self", "tool", "word"]) (G : FnAt F f "cut" "Marked.cut" (mth 56 10) ["self", "tool"]) :
    FnR P w F mg base (L2.CX P w) 8 f (spWd P w F CM "cut") := by
  have S : FnScope NWd ["self", "tool"] (defScope (mth 56 10)) := ⟨rfl, rfl, rfl, by decide +kernel, rfl, by decide +kernel, by decide +kernel⟩
  refine fr_fn (N := NWd) G S (fun vs H Q E ⟨K, v, a, u, b, e, _⟩ => by rw [e]; rfl) ?_
  rintro X _ H Q E cdv A outer s rfl hr ⟨K, vm, M, vt, N, rfl, le, h1, h2, ⟨ok, few⟩, q⟩
  obtain ⟨fo, mo, go⟩ := O
  exact ss_one (s_ret le (ev_ok (ok := fewF (opF M N "cut").1) (z := opF M N "cut") (ev_m3E (fn := opF) (okf := fun M T wd => fewF (opF M T wd).1) (pre := OpOk P w) (CT := CT) (b := M) (a := N) (c3 := ("cut" : Str)) Cs.mkd.cl insR_mk mo (fr_op T Cs Ds Do go) hr passL' (ev_name 0 rfl h1) (ev_name 1 rfl h2) ev_str ok) few) fun v K' H' n hv => q v K' H' n hv)
theorem fr_met {f : Addr} (T : TX w F mg) (Cs : CsOk P w F mg CS CG CM CT) (Ds : DsOk P w F mg base CT) (Do : DoOk P w F mg base CM) (O : MtF F CM "operated" "Marked.operated" stOp ["self", "tool", "word"]) (G : FnAt F f "met" "Marked.met" (mth 56 11) ["self", "tool"]) :
    FnR P w F mg base (L2.CX P w) 8 f (spWd P w F CM "met") := by
  have S : FnScope NWd ["self", "tool"] (defScope (mth 56 11)) := ⟨rfl, rfl, rfl, by decide +kernel, rfl, by decide +kernel, by decide +kernel⟩
  refine fr_fn (N := NWd) G S (fun vs H Q E ⟨K, v, a, u, b, e, _⟩ => by rw [e]; rfl) ?_
  rintro X _ H Q E cdv A outer s rfl hr ⟨K, vm, M, vt, N, rfl, le, h1, h2, ⟨ok, few⟩, q⟩
  obtain ⟨fo, mo, go⟩ := O
  exact ss_one (s_ret le (ev_ok (ok := fewF (opF M N "met").1) (z := opF M N "met") (ev_m3E (fn := opF) (okf := fun M T wd => fewF (opF M T wd).1) (pre := OpOk P w) (CT := CT) (b := M) (a := N) (c3 := ("met" : Str)) Cs.mkd.cl insR_mk mo (fr_op T Cs Ds Do go) hr passL' (ev_name 0 rfl h1) (ev_name 1 rfl h2) ev_str ok) few) fun v K' H' n hv => q v K' H' n hv)
/-! ### to_solid -/
@[irreducible] def ogP (ls : Lines) (cs : List Cell) : Sol := ((ogS ls cs).1, (ogS ls cs).2.1)
@[irreducible] def okG (ls : Lines) (cs : List Cell) : Bool := fewF (ogS ls cs).1
theorem ogP_def (ls : Lines) (cs : List Cell) : ogP ls cs = ((ogS ls cs).1, (ogS ls cs).2.1) := by unfold ogP; rfl
theorem okG_def (ls : Lines) (cs : List Cell) : okG ls cs = fewF (ogS ls cs).1 := by unfold okG; rfl
structure OgOk (ls : Lines) (cs : List Cell) : Prop where
  z : cs.length ≤ sz
  ok : SimpOk ls (cdict cs) []
def keyL {α : Type} (l : List (Cell × α)) : List Cell := l.map fun x => x.1
def tsF (M : Mkd) : Sol := ogP M.1 (keyL M.2.1)
def TsOk (M : Mkd) : Prop := OgOk M.1 (keyL M.2.1) ∧ okG M.1 (keyL M.2.1) = true
end
section
variable {X : Cx} {σ : L2.St} {K : Hp} {CS CG CM CT : Addr} {E : XK}
theorem ev_og {e1 e2 : Expr} {p pos : Pos} {ls : Lines} {cs : List Cell} (T : TX X.w X.K X.mg) (Cs : CsOk X.prog X.w X.K X.mg CS CG CM CT) (Ds : DsOk X.prog X.w X.K X.mg X.base CT) (hr : Room 7 X.A) (hx : Passes (L2.CX X.prog X.w) X E) (h1 : EV X e1 σ K (rTupL X.K (rTupL X.K rInt)) ls) (h2 : EV X e2 σ K (rIt X.K) cs)
    (ok : OgOk ls cs) (hg : Gl X "OnGrid" := by rfl) (he : starEach [e1, e2] X.env = (false, eval e1 X.env) :: starEach [e2] X.env := by rfl) (he2 : starEach [e2] X.env = (false, eval e2 X.env) :: starEach [] X.env := by rfl) (hpl : (backTo pos (starEach [e2] X.env)).any (·.1) = false := by rfl) :
    EVE X CT E (.Call (.Name "OnGrid" p) [e1, e2] [] pos) σ K (okG ls cs) (rSol X.K CG) (ogP ls cs) := by
  rw [okG_def, ogP_def]
  exact ev_onGrid T Cs Ds hr hx h1 h2 ok.z ok.ok hg he he2 hpl
end
section
variable {P : Program} {w : World} {F : PySem.W.Frag} {mg : Str → Option Value} {base : Heap} {CS CG CM CT : Addr}
abbrev spTs (P : Program) (w : World) (F : PySem.W.Frag) (CM CG : Addr) : Sp := sp1 (rMk P w F CM) (rSol F CG) TsOk tsF
theorem fr_ts {f : Addr} (T : TX w F mg) (Cs : CsOk P w F mg CS CG CM CT) (Ds : DsOk P w F mg base CT) (G : FnAt F f "to_solid" "Marked.to_solid" (mth 56 2) ["self"]) : FnR P w F mg base (L2.CX P w) 8 f (spTs P w F CM CG) := by
  have S : FnScope ["self"] ["self"] (defScope (mth 56 2)) := ⟨rfl, rfl, rfl, by decide +kernel, rfl, by decide +kernel, by decide +kernel⟩
  refine fr_fn (N := ["self"]) G S (fun vs H Q E ⟨K, v, a, e, _⟩ => by rw [e]; rfl) ?_
  rintro X _ H Q E cdv A outer s rfl hr ⟨K, vm, M, rfl, le, h1, ⟨ok, few⟩, q⟩
  refine ss_one (s_ret (r := rSol F CG) (a := tsF M) le (ev_ok (ok := okG M.1 (keyL M.2.1)) (z := ogP M.1 (keyL M.2.1)) (ev_og (X := cxD P w F mg base ["self"] "Marked.to_solid" (mth 56 2) f cdv A outer s H E) (ls := M.1) (cs := keyL M.2.1) T Cs Ds hr passL' (ev_ml (s := M) Cs.mkd (ev_name 0 rfl h1)) ((ev_mc (s := M) Cs.mkd (ev_name 0 rfl h1)).imp fun K' v _ h => rIt_of h) ok) few) fun v K' H' n hv => q v K' H' n hv)
/-! ### nothing -/
abbrev noL : Lines := [[], [], []]
abbrev noM : Mkd := (noL, [], [])
structure TN (F : PySem.W.Frag) (mg : Str → Option Value) : Prop where
  no : ∃ p, mg "NO_LINES" = some (.ref p) ∧ ∀ K, (rTupL F (rTupL F rInt)).r K (.ref p) noL
abbrev stNothing : Stmt := top 57
/-- no argument, nothing that need be known -/
def sp00 {δ : Type} (r : Rel δ) (z : δ) : Sp := fun vs H Q _ => vs = [] ∧ ∀ w K' H', Nxt (fun _ => none) H K' H' → r.r K' w z → Q w H'
theorem le_none {H : Hp} : Le (fun _ => none) H := fun a c h => by unfold co at h; cases h
theorem ev_call00 {X : Cx} {σ : L2.St} {K : Hp} {δ : Type} {r : Rel δ} {z : δ} {k : Nat} {x : Str} {p pos : Pos} (F : DfX X k x (sp00 r z)) (hr : Room k X.A) (hg : Gl X x := by rfl) (hdb : (x == ("__debug__" : Str)) = false := by decide) : EV X (.Call (.Name x p) [] [] pos) σ K r z :=
  ev_call0 F hr (fun H1 Q l q => ⟨rfl, fun w K' H' n hw => by
    obtain ⟨n', l'⟩ := n.wide le_none l
    exact q w _ H' n' (r.mono l' hw)⟩) hg hdb
theorem df_nothing (T : TX w F mg) (N : TN F mg) (Cs : CsOk P w F mg CS CG CM CT) (Ds : DsOk P w F mg base CT) (G : FnF F mg "nothing" stNothing []) : Df P w F mg base 7 "nothing" (sp00 (rMk P w F CM) noM) := by
  have S : FnScope [] [] (defScope stNothing) := ⟨rfl, rfl, rfl, by decide +kernel, rfl, by decide +kernel, by decide +kernel⟩
  refine df_fn (N := []) G S (fun vs H Q E ⟨e, _⟩ => by rw [e]; rfl) ?_
  rintro X _ H Q E f cdv A outer s rfl hr ⟨rfl, q⟩
  obtain ⟨p, hm, hp⟩ := N.no
  have e : mkS noL (([] : List (Cell × Unit)).map (fun x => x.1)) [] = noM := rfl
  have ok : SimpOk noL (cdict (([] : List (Cell × Unit)).map (fun x => x.1))) [] := by
    have := solOk_nil.simp
    have e1 : gridCs [] = [] := by decide
    have e2 : gridLn [] = [[], [], []] := by decide
    rw [e1, e2] at this
    exact this
  refine ss_one (s_ret (K := fun _ => none) (r := rMk P w F CM) (a := noM) (fun a c h => by unfold co at h; cases h) ?_ fun v K' H' n hv => q v K' H' n hv)
  exact (ev_ok (ev_marked (X := cxD P w F mg base [] "nothing" stNothing f cdv A outer s H E) (E := E0') (σ := start [] []) (K := fun _ => none) (ls := noL) (cs := []) (ms := []) T Cs Ds hr passL' (ev_glob (v := .ref p) hm rfl (hp _)) (ev_newC) ev_newN (Nat.zero_le _) ok) (by rw [e]; rfl)).of e
end
end SN
end TQMO

section TQBL
set_option Elab.async false
set_option linter.all false
set_option maxRecDepth 100000
set_option maxHeartbeats 4000017
/-! QBL: block. -/
namespace SN
open PySem PySem.Spec PyProof.Rows L2 NdefX
@[irreducible] def mkP (ls : Lines) (cs : List Cell) (ms : Marks) : Mkd := mkS ls cs ms
@[irreducible] def okM (ls : Lines) (cs : List Cell) (ms : Marks) : Bool := fewF (mkS ls cs ms).1
theorem mkP_def (ls : Lines) (cs : List Cell) (ms : Marks) : mkP ls cs ms = mkS ls cs ms := by unfold mkP; rfl
theorem okM_def (ls : Lines) (cs : List Cell) (ms : Marks) : okM ls cs ms = fewF (mkS ls cs ms).1 := by unfold okM; rfl
@[irreducible] def gsP (b : Box) : Sol := ((gsol [b]).1, (gsol [b]).2.1)
theorem gsP_def (b : Box) : gsP b = ((gsol [b]).1, (gsol [b]).2.1) := by unfold gsP; rfl
section
variable {X : Cx} {σ : L2.St} {K : Hp} {CS CG CM CT : Addr} {E : XK}
theorem ev_mk {α : Type} {r : Rel α} {e1 e2 e3 : Expr} {p pos : Pos} {ls : Lines} {cs : List (Cell × α)} {ms : Marks} (T : TX X.w X.K X.mg) (Cs : CsOk X.prog X.w X.K X.mg CS CG CM CT) (Ds : DsOk X.prog X.w X.K X.mg X.base CT) (hr : Room 6 X.A) (hx : Passes (L2.CX X.prog X.w) X E) (h1 : EV X e1 σ K (rTupL X.K (rTupL X.K rInt)) ls) (h2 : EV X e2 σ K (rDC r) cs) (h3 : EV X e3 σ K (rDN X.prog X.w rStr) ms)
    (hz : cs.length ≤ sz) (ok : SimpOk ls (cdict (keyL cs)) ms) (hg : Gl X "Marked" := by rfl) (he : starEach [e1, e2, e3] X.env = (false, eval e1 X.env) :: starEach [e2, e3] X.env := by rfl) (he2 : starEach [e2, e3] X.env = (false, eval e2 X.env) :: starEach [e3] X.env := by rfl) (he3 : starEach [e3] X.env = (false, eval e3 X.env) :: starEach [] X.env := by rfl) (hpl : (backTo pos (starEach [e2, e3] X.env)).any (·.1) = false := by rfl) :
    EVE X CT E (.Call (.Name "Marked" p) [e1, e2, e3] [] pos) σ K (okM ls (keyL cs) ms) (rMk X.prog X.w X.K CM) (mkP ls (keyL cs) ms) := by
  have e : (keysU cs).map (fun x : Cell × Unit => x.1) = keyL cs := keysU_fst cs
  have z := ev_marked (p := p) (cs := keysU cs) T Cs Ds hr hx h1 (h2.imp fun K' v _ h => rKs_of h) h3 (by rw [keysU_len]; exact hz) (by rw [e]; exact ok) hg he he2 he3 hpl
  rw [e] at z
  rw [okM_def, mkP_def]
  exact z
theorem ev_sol {e1 : Expr} {p pos : Pos} {b : Box} (T : TX X.w X.K X.mg) (Cs : CsOk X.prog X.w X.K X.mg CS CG CM CT) (Ds : DsOk X.prog X.w X.K X.mg X.base CT) (hr : Room 6 X.A) (h1 : EV X e1 σ K rBox b) (ok : SolOk [b]) (hg : Gl X "Solid" := by rfl)
    (he : starEach [e1] X.env = (false, eval e1 X.env) :: starEach [] X.env := by rfl) (hpl : (backTo pos (starEach [] X.env)).any (·.1) = false := by rfl) :
    EV X (.Call (.Name "Solid" p) [e1] [] pos) σ K (rSol X.K CS) (gsP b) := by
  rw [gsP_def]
  exact ev_solid T Cs Ds hr h1 ok hg he hpl
end
def blkQ (nm : Str) (q : Sq) : Sq × Str := (q, (nm ++ "/") ++ sname q.2)
def blkM (b : Box) (nm : Str) : Marks := dputs [] ((surfOf (gsP b).2).map (blkQ nm))
def blkF (b : Box) (nm : Str) : Mkd := mkP (gsP b).1 (keyL (gsP b).2) (blkM b nm)
structure BlkOk (b : Box) (nm : Str) : Prop where
  bx : isBoxF b = true
  inl : nm ∈ nameL
  sol : SolOk [b]
  z1 : (gsP b).2.length ≤ 100000
  z2 : (surfOf (gsP b).2).length ≤ sz
  simp : SimpOk (gsP b).1 (cdict (keyL (gsP b).2)) (blkM b nm)
  few : okM (gsP b).1 (keyL (gsP b).2) (blkM b nm) = true
theorem sname_len : ∀ s : Side, (sname s).length = 2 := by decide +kernel
theorem nameL_len : ∀ z ∈ nameL, (z ++ "/").length ≤ 10 ∧ z.length ≤ 10 := by decide +kernel
section
variable {X : Cx} {σ : L2.St} {K : Hp}
theorem ev_addS {a b : Expr} {pos : Pos} {i j : Str} (ha : EV X a σ K rStr i) (hb : EV X b σ K rStr j) (hz : i.length + j.length ≤ 1000) : EV X (.BinOp a .Add b pos) σ K rStr (i ++ j) :=
  ev_op op_add_str ha hb fun K1 H1 u v Q _ l hu hv q => ⟨i, j, hu, hv, sz3 hz, q _ K1 H1 (.refl l) rfl⟩
end
abbrev stBlock : Stmt := top 58
abbrev NBlk : List Str := ["box", "name", "solid", "marks", "cell", "side"]
section
variable {P : Program} {w : World} {F : PySem.W.Frag} {mg : Str → Option Value} {base : Heap} {CS CG CM CT : Addr}
/-- the defs that block asks -/
structure DbOk (P : Program) (w : World) (F : PySem.W.Frag) (mg : Str → Option Value) (base : Heap) : Prop where
  nb : Df P w F mg base 4 "need_box" (sp1 rBox rNon (fun b => isBoxF b = true) fun _ => ())
  nn : Df P w F mg base 2 "need_name" (sp1 rStr rNon (fun z => z ∈ nameL) fun _ => ())
  s3 : Df P w F mg base 3 "surface_squares" (spSurf F rBl)
abbrev spBlk (P : Program) (w : World) (F : PySem.W.Frag) (CM : Addr) : Sp := sp2 rBox rStr (rMk P w F CM) BlkOk blkF
theorem df_block (T : TX w F mg) (Cs : CsOk P w F mg CS CG CM CT) (Ds : DsOk P w F mg base CT) (Db : DbOk P w F mg base) (G : FnF F mg "block" stBlock ["box", "name"]) : Df P w F mg base 7 "block" (spBlk P w F CM) := by
  have S : FnScope NBlk ["box", "name"] (defScope stBlock) := ⟨rfl, rfl, rfl, by decide +kernel, rfl, by decide +kernel, by decide +kernel⟩
  refine df_fn (N := NBlk) G S (fun vs H Q E ⟨K, v, a, u, b, e, _⟩ => by rw [e]; rfl) ?_
  rintro X _ H Q E f cdv A outer s rfl hr ⟨K, vb, b, vn, nm, rfl, le, h1, h2, ok, q⟩
  have hu := hu_of hr
  have hu64 : A.units + 3 + 64 < cLine := by have := hr.un; show _; exact Nat.lt_of_le_of_lt (by show _ ≤ (A.units + 3) + 16 * 6 + 200; omega) this
  refine ss_cons (s_expr le (ev_call1 (a := b) Db.nb (hr.mono (by decide)) (ev_name 0 rfl h1) ok.bx) fun K1 H1 n1 => ?_)
  refine ss_cons (s_expr n1.in_ (ev_call1 (a := nm) Db.nn (hr.mono (by decide)) (ev_name 1 rfl (rStr.mono n1.le h2)) ok.inl) fun K2 H2 n2 => ?_)
  have m2 := n1.trans n2
  refine ss_cons (s_asg (i := 2) (r := rSol F CS) (a := gsP b) S.nd rfl (Or.inl rfl) n2.in_ (ev_sol (b := b) T Cs Ds (hr.mono (by decide)) (ev_name 0 rfl (rBox.mono m2.le h1)) ok.sol) fun v3 K3 H3 n3 hs => ?_)
  have m3 := m2.trans n3
  refine ss_cons (s_cd (i := 3) (rr := rDN P w rStr) (z := blkM b nm) S.nd rfl n3.in_ ?_ fun v4 K4 H4 n4 hv4 => ?_)
  · refine cd_dNt (g := gt2 F 4 5) (r := rSq F) (own := [("cell", 4), ("side", 5)]) (xs := surfOf (gsP b).2) (f := blkQ nm) (rr := rStr) hu64 rfl S.nd (es_list (ev_call1 (a := (gsP b).2) Db.s3 (hr.mono (by decide)) (ev_gc (s := gsP b) Cs.sol (ev_name 2 rfl hs)) ok.z1)) (blkOk_by (N := NBlk) (sc := defScope stBlock) (by decide +kernel)) (fun _ _ _ _ _ => pg_n2 4 5 rfl S.nd rfl rfl (Or.inl rfl) (Or.inl rfl) (Or.inr rfl) (Or.inr rfl)) ok.z2 ?_
    intro i qq K5 x ea l5 ⟨p, pc, e1, g1, g2⟩
    subst e1
    refine ⟨_, gd_tup2 (SqT.of (co_tup.mp g1)) gd_name gd_name, (wipe_set (by decide)).trans (wipe_t (by decide)), fun s H0 C cl fp => ?_⟩
    refine ⟨ev_sq (ev_name 4 rfl ⟨pc, rfl, g2⟩) (ev_name 5 rfl rfl), ?_⟩
    have z1 := (nameL_len nm ok.inl)
    have z2 : ("/" : Str).length = 1 := by decide +kernel
    exact ev_addS (ev_addS (ev_name 1 rfl (rStr.mono (m3.le.trans l5) h2)) ev_str (by have := z1.2; omega)) (ev_name 5 rfl rfl) (by rw [sname_len]; have := z1.1; omega)
  have m4 := m3.trans n4
  have hs4 := (rSol F CS).mono n4.le hs
  exact ss_one (s_ret (r := rMk P w F CM) (a := blkF b nm) n4.in_ (ev_ok (ok := okM (gsP b).1 (keyL (gsP b).2) (blkM b nm)) (z := mkP (gsP b).1 (keyL (gsP b).2) (blkM b nm)) (ev_mk (X := cxD P w F mg base NBlk "block" stBlock f cdv A outer s H E) (ls := (gsP b).1) (cs := (gsP b).2) (ms := blkM b nm) T Cs Ds (hr.mono (by decide)) passL' (ev_gl (s := gsP b) Cs.sol (ev_name 2 rfl hs4)) (ev_gc (s := gsP b) Cs.sol (ev_name 2 rfl hs4)) (ev_name 3 rfl hv4) (Nat.le_trans ok.z1 (by decide)) ok.simp) ok.few) fun v K' H' n hv => q v K' H' (m4.trans n) hv)
end
end SN
end TQBL

section TQDU
set_option Elab.async false
set_option linter.all false
set_option maxRecDepth 100000
set_option maxHeartbeats 4000017
/-! QDU: operators, truth and membership of own instances. -/
namespace SN
open PySem PySem.Spec PyProof.Rows L2 NdefX
section
variable {prog : Program} {w : World} {A : Around} {E : Value → Shared → Prop} {s : Shared}
theorem new_bool_ins {x : Addr} {R : Result → Shared → Prop} (h : wpAny (model prog w) A.in1 (truthy (.ref x)) (fun b s' => R (.ok (.ret (.bool b))) s') (fun e s' => R (.error e) s') s) :
    wpAny (model prog w) A.in1 (Builtin.«bool.__new__» ⟨[.type "bool", .ref x], []⟩) (fun fin s' => match fin with | .done f => R (.ok f) s' | .again c' => c'.quiet = true ∧ codeAny (model prog w) A c' R s') (fun e s' => R (.error e) s') s := by
  have f1 := F.conv_sub_bool
  obtain ⟨hp, g, d, tk, os⟩ := s
  repeat (any_goals (first | assumption | (with_reducible refine wpAny_bind (wpAny_mono h (fun b s' hb => ?_) fun _ _ e => e)) | wp_step))
  all_goals first | exact hb | (obtain ⟨hp2, g2, d2, tk2, os2⟩ := s'; repeat (any_goals (first | assumption | wp_step))) | skip
  all_goals first | exact hb | skip
theorem call_bool_ins {x : Addr} {Q : Value → Shared → Prop} (h : wpAny (model prog w) A.in1.in1 (truthy (.ref x)) (fun b s' => Q (.bool b) s') E s) : wpAny (model prog w) A (call (.type "bool") [.ref x]) Q E s := by
  have ft := F.called_bool
  obtain ⟨c, tl, hmro⟩ := ft.mro
  have hmade := ft.made
  have hsub := ft.sub
  have hct := F.typeCall_bool_1 (.ref x)
  refine wpAny_call (codeAny_of_tree ?_)
  show wpAny _ _ (callAny (.type "bool") _) _ _ _
  refine wpAny_pure ⟨Code.quiet_builtin _ (by decide +kernel), codeAny_builtin F.entry_type_call ?_⟩
  rw [Around.under_plain (weight_type_call_type "bool" [.ref x] []) (units_type_call_type "bool" [.ref x] [])]
  have h1 := ft.notType
  have h2 := ft.canCreate
  repeat (any_goals (first | assumption | wp_step))
  refine codeAny_mono (codeAny_call_builtin ft.plain F.entry_bool_new (wpAny_of_eq (F.newCall_bool_1 (.ref x)) (new_bool_ins (R := wants (fun obj s₁ => s₁.TypeIs obj "bool" ∧ Q obj s₁) E) (wpAny_mono h (fun b s' q => ⟨rfl, q⟩) fun _ _ e => e)))) fun r s₁ hr => ?_
  cases r with
  | error e => exact hr
  | ok fl =>
    cases fl with
    | ret obj =>
      obtain ⟨hT, hQ⟩ := hr
      have hli := ft.init.lookup
      have hbi := ft.init.bind obj
      have gi := object_init_meets (self := obj) (rest := [.ref x]) ft.init.lookup ft.made F.newNe_bool
      repeat (any_goals (first | assumption | wp_step))
      refine codeAny_mono (codeAny_call_builtin ft.init.plain F.entry_object_init (ft.init.check _ _ _ _ _ _ _ _ hT (F.args_object_init_2 obj (.ref x)) (gi prog w A.in1 (wants (fun r s₂ => r = .none ∧ Q obj s₂) E) s₁ ⟨hT, rfl, hQ⟩))) fun r₂ s₂ hr₂ => ?_
      cases r₂ with
      | error e => exact hr₂
      | ok fl₂ =>
        cases fl₂ with
        | ret r =>
          obtain ⟨rfl, hq⟩ := hr₂
          repeat (any_goals (first | assumption | wp_step))
        | _ => exact hr₂.elim
    | _ => exact hr.elim
end
section
variable {X : Cx} {α β γ δ : Type} {σ : L2.St} {K H : Hp} {CT C : Addr} {E : XK} {rr : Rel δ} {r1 : Rel α} {a : α} {r2 : Rel β} {b : β}
theorem cmpBack_EP {pins : List (Addr × Obj)} {Q : VK} {v : Value} {s : Shared} (h : EP X pins σ Q v s) : PySem.W.CmpBack (EP X pins σ Q) v s := by
  obtain ⟨w, H', I, r, q⟩ := h
  cases w <;> (first | (obtain ⟨t, rfl⟩ := r) | (obtain rfl := r)) <;> exact ⟨_, H', I, by first | rfl | exact ⟨_, rfl⟩, q⟩
/-- a def of the class, run here -/
theorem call_fnR {k : Nat} {f : Addr} {sp : Sp} {pins : List (Addr × Obj)} {s : Shared} {us : List Value} {vs : List V} {Q : VK} (F : FnR X.prog X.w X.K X.mg X.base (L2.CX X.prog X.w) k f sp) (hr : Room k X.A) (hx : Passes (L2.CX X.prog X.w) X E) (I : Inv X pins σ H s) (r : Vals vs us) (h : sp vs H Q E) :
    wpAny (model X.prog X.w) X.A (call (.ref f) us) (EP X pins σ Q) X.xe s := wpAny_call (run_fnR F hr hx I r h)
/-- a binary operator by an own method -/
theorem op_dun {op : Operator} {k : Nat} {f : Addr} {sp : Sp} (hc : PySem.W.selfFirst X.K C = true) (hs : PySem.W.findIn X.K (.ref C) (PySem.dunder op.info.2) = some (some (.ref f))) (hf : PySem.W.isFn X.K (.ref f) = true) (F : FnR X.prog X.w X.K X.mg X.base (L2.CX X.prog X.w) k f sp) (hr : Room k X.A) (hx : Passes (L2.CX X.prog X.w) X E) :
    OpR X (binaryOp op) (fun x y H Q => ∃ a dx fs b dy gs, x = .ref a ∧ y = .ref b ∧ H a = some (.ins C dx fs) ∧ H b = some (.ins C dy gs) ∧ sp [x, y] H Q E) := by
  rintro pins s σ H x y v u Q I rx ry ⟨a, dx, fs, b, dy, gs, rfl, rfl, ha, hb, q⟩
  cases rx
  cases ry
  obtain ⟨mA, J, _⟩ := ins_get I.hok ha
  obtain ⟨mB, J', _⟩ := ins_get I.hok hb
  obtain ⟨od, J, _⟩ := J.look
  obtain ⟨od', J', _⟩ := J'.look
  obtain ⟨m, hF⟩ := I.fr
  exact PySem.W.binop_K hF I.ok.mod.kin J J'.type hc hs hf (wpAny_mono (call_fnR (us := [.ref a, .ref b]) (vs := [.ref a, .ref b]) F hr hx I (.cons rfl (.cons rfl .nil)) q) (fun _ _ h => cmpBack_EP h) fun _ _ x => x)
theorem ev_binE {op : Operator} {e1 e2 : Expr} {pos : Pos} {k : Nat} {f : Addr} {pre : α → β → Prop} {okf : α → β → Bool} {fn : α → β → δ} (hc : PySem.W.selfFirst X.K C = true) (hs : PySem.W.findIn X.K (.ref C) (PySem.dunder op.info.2) = some (some (.ref f))) (hf : PySem.W.isFn X.K (.ref f) = true)
    (F : FnR X.prog X.w X.K X.mg X.base (L2.CX X.prog X.w) k f (sp2E CT r1 r2 rr pre okf fn)) (hr : Room k X.A) (hx : Passes (L2.CX X.prog X.w) X E) (i1 : InsR C "zz" r1) (i2 : InsR C "zz" r2) (h1 : EV X e1 σ K r1 a) (h2 : EV X e2 σ K r2 b) (hp : pre a b) :
    EVE X CT E (.BinOp e1 op e2 pos) σ K (okf a b) rr (fn a b) := fun H l Q q qe =>
  PE.to (pe_op (op_dun hc hs hf F hr hx) (peW e1) (peW e2)) (h1 H l _ fun u K1 H1 n1 hu => h2.mono n1.le H1 n1.in_ _ fun v K2 H2 n2 hv => by
    obtain ⟨p, dx, fs, rfl, g1, _⟩ := i1 K1 u a hu
    obtain ⟨p2, dy, gs, rfl, g2, _⟩ := i2 K2 v b hv
    exact ⟨p, dx, fs, p2, dy, gs, rfl, rfl, co_ins.mp ((n2.le.trans n2.in_) p _ g1), co_ins.mp (n2.in_ p2 _ g2), K2, .ref p, a, .ref p2, b, rfl, n2.in_, r1.mono n2.le hu, hv, hp, fun ek w K3 H3 n3 hw => q ek w K3 H3 ((n1.trans n2).trans n3) hw, fun ek => (qe ek).nxt (n1.trans n2)⟩)
/-- truth by an own __bool__ -/
theorem truthy_fnR {A : Around} {k : Nat} {f p dx : Addr} {fs : List (Str × V)} {pre : α → Prop} {fn : α → Bool} {pins : List (Addr × Obj)} {s : Shared} {Q : Bool → Hp → Prop} (hs : PySem.W.findIn X.K (.ref C) "__bool__" = some (some (.ref f))) (hf : PySem.W.isFn X.K (.ref f) = true)
    (F : FnR X.prog X.w X.K X.mg X.base (L2.CX X.prog X.w) k f (sp1 r1 rBl pre fn)) (hr : Room k A) (e0 : Env0 X.prog X.w X.K X.mg X.base A X.stack s H) (I : Inv X pins σ H s) (hp : pre a) (l : Le K H) (h1 : r1.r K (.ref p) a) (g1 : co K p = some (.ins C dx fs)) (q : ∀ K' H', Nxt K H K' H' → Q (fn a) H') :
    wpAny (model X.prog X.w) A (truthy (.ref p)) (TP X pins σ Q) X.xe s := by
  obtain ⟨mA, J, _⟩ := ins_get I.hok (co_ins.mp (l p _ g1))
  obtain ⟨od, J, _⟩ := J.look
  obtain ⟨m, hF⟩ := I.fr
  refine PySem.W.truthy_K hF I.ok.mod.kin J hs hf (wpAny_call (codeAny_mono (F A X.stack s H [.ref p] [.ref p] (fun v H' => ∃ K', v = .bl (fn a) ∧ Nxt K H K' H') E0' hr e0 (.cons rfl .nil) ⟨K, .ref p, a, rfl, l, h1, hp, fun w K' H' n hw => ⟨K', hw, n⟩⟩) fun r s' hq => ?_))
  cases r with
  | error e =>
    obtain ⟨_, _, _, _, _, _, _, _, _, _, _, _, z⟩ := hq
    exact z.elim
  | ok fl =>
    cases fl with
    | ret u =>
      obtain ⟨v, H', I', rv, K', rfl, n⟩ := I.after hq
      cases rv
      exact ⟨H', I', q K' H' n⟩
    | next => exact hq.elim
    | brk => exact hq.elim
    | cont => exact hq.elim
/-- not e, e an instance -/
theorem ev_notI {e : Expr} {pos : Pos} {k : Nat} {f : Addr} {pre : α → Prop} {fn : α → Bool} (hs : PySem.W.findIn X.K (.ref C) "__bool__" = some (some (.ref f))) (hf : PySem.W.isFn X.K (.ref f) = true)
    (F : FnR X.prog X.w X.K X.mg X.base (L2.CX X.prog X.w) k f (sp1 r1 rBl pre fn)) (hr : Room k X.A) (i1 : InsR C "zz" r1) (h : EV X e σ K r1 a) (hp : pre a) : EV X (.UnaryOp .Not e pos) σ K rBl (!fn a) := fun H l Q q pins s I =>
  UnaryOp_ (thn (h H l (fun v H1 => ∃ K1, Nxt K H K1 H1 ∧ r1.r K1 v a) (fun v K1 H1 n hv => ⟨K1, n, hv⟩) pins s I) fun v s1 ⟨x, H1, I1, rv, K1, n1, hx⟩ => by
    obtain ⟨p, dx, fs, rfl, g1, _⟩ := i1 K1 x a hx
    cases rv
    exact not_of (wpAny_mono (truthy_fnR (Q := fun b H' => b = fn a ∧ ∃ K', Nxt K1 H1 K' H') hs hf F hr I1.env0 I1 hp n1.in_ hx g1 fun K' H' n' => ⟨rfl, K', n'⟩) (fun b s2 ⟨H2, I2, eb, K2, n2⟩ => ⟨.bl (!fn a), H2, I2, by rw [eb]; rfl, q _ K2 H2 (n1.trans n2) rfl⟩) fun _ _ x => x))
/-- bool(e), e an instance -/
theorem cr_boolI {k : Nat} {f : Addr} {pre : α → Prop} {fn : α → Bool} (hs : PySem.W.findIn X.K (.ref C) "__bool__" = some (some (.ref f))) (hf : PySem.W.isFn X.K (.ref f) = true) (F : FnR X.prog X.w X.K X.mg X.base (L2.CX X.prog X.w) k f (sp1 r1 rBl pre fn)) (hr : Room (k + 2) X.A) :
    CallR X (.type "bool") (fun xs H Q => ∃ K p dx fs a, xs = [.ref p] ∧ Le K H ∧ r1.r K (.ref p) a ∧ co K p = some (.ins C dx fs) ∧ pre a ∧ ∀ K' H', Nxt K H K' H' → Q (.bl (fn a)) H') := by
  rintro pins s σ H xs us Q I rv ⟨K, p, dx, fs, a, rfl, l, h1, g1, hp, q⟩
  obtain rfl := Vals.ref1 rv
  exact call_bool_ins (wpAny_mono (truthy_fnR (A := X.A.in1.in1) (Q := fun b H' => b = fn a ∧ ∃ K', Nxt K H K' H') hs hf F hr.in1.in1 I.env0.in1.in1 I hp l h1 g1 fun K' H' n' => ⟨rfl, K', n'⟩) (fun b s2 ⟨H2, I2, eb, K2, n2⟩ => ⟨.bl (fn a), H2, I2, by rw [eb]; rfl, q K2 H2 n2⟩) fun _ _ x => x)
theorem ev_boolI {e : Expr} {p pos : Pos} {k : Nat} {f : Addr} {pre : α → Prop} {fn : α → Bool} (hm : X.mg "bool" = none) (hs : PySem.W.findIn X.K (.ref C) "__bool__" = some (some (.ref f))) (hf : PySem.W.isFn X.K (.ref f) = true) (F : FnR X.prog X.w X.K X.mg X.base (L2.CX X.prog X.w) k f (sp1 r1 rBl pre fn)) (hr : Room (k + 2) X.A)
    (i1 : InsR C "zz" r1) (h : EV X e σ K r1 a) (hp : pre a) (hg : Gl X "bool" := by rfl) (he : starEach [e] X.env = (false, eval e X.env) :: starEach [] X.env := by rfl) (hpl : (backTo pos (starEach [] X.env)).any (·.1) = false := by rfl) :
    EV X (.Call (.Name "bool" p) [e] [] pos) σ K rBl (fn a) :=
  ev_callTy (cr_boolI hs hf F hr) hm (by decide +kernel) (ea_1 h he) (fun vs K1 H1 Q _ l ⟨v, _, e1, hv, e3⟩ q => by
    subst e3; subst e1
    obtain ⟨p, dx, fs, rfl, g1, _⟩ := i1 K1 v a hv
    exact ⟨K1, p, dx, fs, a, rfl, l, hv, g1, hp, fun K' H' n => q _ K' H' n rfl⟩) hg (by decide) (by decide) he hpl
/-- e1 not in e2, e2 an instance with an own __contains__ -/
theorem op_notinI {k : Nat} {f : Addr} {pre : α → β → Prop} {fn : α → β → Bool} (hs : PySem.W.findIn X.K (.ref C) "__contains__" = some (some (.ref f))) (hf : PySem.W.isFn X.K (.ref f) = true) (F : FnR X.prog X.w X.K X.mg X.base (L2.CX X.prog X.w) k f (sp2 r1 r2 rBl pre fn)) (hr : Room k X.A) :
    OpR X (compareOp .NotIn) (fun x y H Q => ∃ K p dx fs a b, y = .ref p ∧ Le K H ∧ r1.r K (.ref p) a ∧ co K p = some (.ins C dx fs) ∧ r2.r K x b ∧ pre a b ∧ ∀ K' H', Nxt K H K' H' → Q (.bl (!fn a b)) H') := by
  rintro pins s σ H x y v u Q I rx ry ⟨K, p, dx, fs, a, b, rfl, l, h1, g1, h2, hp, q⟩
  cases ry
  obtain ⟨mA, J, _⟩ := ins_get I.hok (co_ins.mp (l p _ g1))
  obtain ⟨od, J, _⟩ := J.look
  obtain ⟨m, hF⟩ := I.fr
  refine PySem.W.notIn_K hF I.ok.mod.kin J hs hf (wpAny_mono (call_fnR (E := E0') (us := [.ref p, v]) (vs := [.ref p, x]) (Q := fun v H' => ∃ K', v = .bl (fn a b) ∧ Nxt K H K' H') F hr passL' I (.cons rfl (.cons rx .nil)) ⟨K, .ref p, a, x, b, rfl, l, h1, h2, hp, fun w K' H' n hw => ⟨K', hw, n⟩⟩) (fun r s' ⟨z, H', I', rz, K', ez, n⟩ => ?_) fun _ _ x => x)
  subst ez
  cases rz
  exact wpAny_truthy_bool ⟨.bl (!fn a b), H', I', rfl, q K' H' n⟩
theorem et_notinI {e1 e2 : Expr} {pos : Pos} {k : Nat} {f : Addr} {pre : α → β → Prop} {fn : α → β → Bool} (hs : PySem.W.findIn X.K (.ref C) "__contains__" = some (some (.ref f))) (hf : PySem.W.isFn X.K (.ref f) = true) (F : FnR X.prog X.w X.K X.mg X.base (L2.CX X.prog X.w) k f (sp2 r1 r2 rBl pre fn)) (hr : Room k X.A)
    (i1 : InsR C "zz" r1) (h2 : EV X e1 σ K r2 b) (h1 : EV X e2 σ K r1 a) (hp : pre a b) (hm : behindInMarks .NotIn e2 = false := by rfl) : ET X (.Compare e1 [.NotIn] [e2] pos) σ K (!fn a b) :=
  et_cmp (op_notinI hs hf F hr) hm h2 h1 fun K1 H1 u v Q _ l hu hv q => by
    obtain ⟨p, dx, fs, rfl, g1, _⟩ := i1 K1 v a hv
    exact ⟨K1, p, dx, fs, a, b, rfl, l, hv, g1, hu, hp, fun K' H' n => q _ K' H' n rfl⟩
end
end SN
end TQDU

section TQSO
set_option Elab.async false
set_option linter.all false
set_option maxRecDepth 100000
set_option maxHeartbeats 4000017
/-! QSO: Solid.both, __or__, __sub__, __bool__; added, taken. -/
namespace SN
open PySem PySem.Spec PyProof.Rows L2 NdefX
abbrev CCs := List (Cell × Cell)
@[irreducible] def botL (A B : Sol) : Lines := mergedF A.1 B.1
@[irreducible] def onS (A : Sol) (ls : Lines) : CCs := coarseF A.1 (keyL A.2) ls
theorem botL_def (A B : Sol) : botL A B = mergedF A.1 B.1 := by unfold botL; rfl
theorem onS_def (A : Sol) (ls : Lines) : onS A ls = coarseF A.1 (keyL A.2) ls := by unfold onS; rfl
def bothF (A B : Sol) : Lines × CCs × CCs := (botL A B, onS A (botL A B), onS B (botL A B))
structure BothOk (A B : Sol) : Prop where
  a1 : ∀ x ∈ A.1, x.length < 32
  a2 : ∀ x ∈ B.1, x.length < 32
  a3 : A.1.length ≤ 1000
  c1 : CoarseOk A.1 (keyL A.2) (botL A B)
  c2 : CoarseOk B.1 (keyL B.2) (botL A B)
abbrev stBoth : Stmt := mth 49 4
abbrev stOr : Stmt := mth 49 5
abbrev stSub : Stmt := mth 49 6
section
variable {P : Program} {w : World} {F : PySem.W.Frag} {mg : Str → Option Value} {base : Heap} {CS CG CM CT : Addr}
abbrev spBoth (F : PySem.W.Frag) (CG : Addr) : Sp := sp2 (rSol F CG) (rSol F CG) (rTup3 F (rTupL F (rTupL F rInt)) (rDC rCell) (rDC rCell)) BothOk bothF
abbrev spMerged (F : PySem.W.Frag) : Sp := sp2 (rTupL F (rTupL F rInt)) (rTupL F (rTupL F rInt)) (rTupL F (rTupL F rInt)) (fun a b => (∀ x ∈ a, x.length < 32) ∧ (∀ x ∈ b, x.length < 32) ∧ a.length ≤ 1000) mergedF
theorem fr_both {f : Addr} (c : ClsOk F CG) (Dm : Df P w F mg base 2 "merged_lines" (spMerged F)) (Dc : Df P w F mg base 2 "coarse_cells" (spCoarse F rBl)) (G : FnAt F f "both" "Solid.both" stBoth ["self", "other"]) : FnR P w F mg base (L2.CX P w) 3 f (spBoth F CG) := by
  have S : FnScope ["self", "other", "lines", "mine"] ["self", "other"] (defScope stBoth) := ⟨rfl, rfl, rfl, by decide +kernel, rfl, by decide +kernel, by decide +kernel⟩
  refine fr_fn (N := ["self", "other", "lines", "mine"]) G S (fun vs H Q E ⟨K, v, a, u, b, e, _⟩ => by rw [e]; rfl) ?_
  rintro X _ H Q E cdv A outer s rfl hr ⟨K, vA, sA, vB, sB, rfl, le, h1, h2, ok, q⟩
  refine ss_cons (s_asg (i := 2) (r := rTupL F (rTupL F rInt)) (a := botL sA sB) S.nd rfl (Or.inl rfl) le ((ev_call2 (a := sA.1) (b := sB.1) Dm hr (ev_gl (s := sA) c (ev_name 0 rfl h1)) (ev_gl (s := sB) c (ev_name 1 rfl h2)) ⟨ok.a1, ok.a2, ok.a3⟩).of (botL_def sA sB).symm) fun v3 K1 H1 n1 hl => ?_)
  have h1' := (rSol F CG).mono n1.le h1
  have h2' := (rSol F CG).mono n1.le h2
  refine ss_cons (s_asg (i := 3) (r := rDC rCell) (a := onS sA (botL sA sB)) S.nd rfl (Or.inl rfl) n1.in_ ((ev_call3 (a := sA.1) (b := sA.2) (c := botL sA sB) Dc hr (ev_gl (s := sA) c (ev_name 0 rfl h1')) (ev_gc (s := sA) c (ev_name 0 rfl h1')) (ev_name 2 rfl hl) ok.c1).of (onS_def sA _).symm) fun v4 K2 H2 n2 hm => ?_)
  have h2'' := (rSol F CG).mono n2.le h2'
  refine ss_one (s_ret (r := rTup3 F (rTupL F (rTupL F rInt)) (rDC rCell) (rDC rCell)) (a := bothF sA sB) n2.in_ (ev_tup3 (ev_name 2 rfl ((rTupL F (rTupL F rInt)).mono n2.le hl)) (ev_name 3 rfl hm) ((ev_call3 (a := sB.1) (b := sB.2) (c := botL sA sB) Dc hr (ev_gl (s := sB) c (ev_name 1 rfl h2'')) (ev_gc (s := sB) c (ev_name 1 rfl h2'')) (ev_name 2 rfl ((rTupL F (rTupL F rInt)).mono n2.le hl)) ok.c2).of (onS_def sB _).symm)) fun v K' H' n hv => q v K' H' ((n1.trans n2).trans n) hv)
/-! ### the difference -/
def notInB (b : CCs) (c : Cell) : Bool := !(dget b c).isSome
def subC (A B : Sol) : List Cell := (keyL (onS A (botL A B))).filter (notInB (onS B (botL A B)))
def subF (A B : Sol) : Sol := ogP (botL A B) (subC A B)
def subOk (A B : Sol) : Bool := okG (botL A B) (subC A B)
structure SubOk (A B : Sol) : Prop where
  both : BothOk A B
  z : (onS A (botL A B)).length ≤ sz
  og : OgOk (botL A B) (subC A B)
abbrev NSub : List Str := ["self", "other", "lines", "mine", "their", "cell"]
abbrev spSub (F : PySem.W.Frag) (CG CT : Addr) : Sp := sp2E CT (rSol F CG) (rSol F CG) (rSol F CG) SubOk subOk subF
structure DbO (P : Program) (w : World) (F : PySem.W.Frag) (mg : Str → Option Value) (base : Heap) (CG : Addr) : Prop where
  dm : Df P w F mg base 2 "merged_lines" (spMerged F)
  dc : Df P w F mg base 2 "coarse_cells" (spCoarse F rBl)
  bo : MtF F CG "both" "Solid.both" stBoth ["self", "other"]
theorem fr_sub {f : Addr} (T : TX w F mg) (Cs : CsOk P w F mg CS CG CM CT) (Ds : DsOk P w F mg base CT) (Db : DbO P w F mg base CG) (G : FnAt F f "__sub__" "Solid.__sub__" stSub ["self", "other"]) : FnR P w F mg base (L2.CX P w) 8 f (spSub F CG CT) := by
  have S : FnScope NSub ["self", "other"] (defScope stSub) := ⟨rfl, rfl, rfl, by decide +kernel, rfl, by decide +kernel, by decide +kernel⟩
  refine fr_fn (N := NSub) G S (fun vs H Q E ⟨K, v, a, u, b, e, _⟩ => by rw [e]; rfl) ?_
  rintro X _ H Q E cdv A outer s rfl hr ⟨K, vA, sA, vB, sB, rfl, le, h1, h2, ok, qt, qf⟩
  have hu := hu_of hr
  obtain ⟨fb, mb, gb⟩ := Db.bo
  refine ss_cons (s_asgG (g := gt3 F 2 3 4) (r := rTup3 F (rTupL F (rTupL F rInt)) (rDC rCell) (rDC rCell)) (a := bothF sA sB) (pg_n3 2 3 4 rfl S.nd rfl rfl rfl (Or.inl rfl) (Or.inl rfl) (Or.inr rfl) (Or.inl rfl) (Or.inl rfl) (Or.inl rfl)) le (ev_m2 (b := sA) (a := sB) Cs.og.cl insR_sol mb (fr_both Cs.og Db.dm Db.dc gb) (hr.mono (by decide)) (ev_name 0 rfl h1) (ev_name 1 rfl h2) ok.both) fun v2 K2 H2 n2 ⟨p2, x1, y1, z1, e2, hp2, hx1, hy1, hz1⟩ => ?_)
  subst e2
  refine gd_tup3 hp2 gd_name gd_name gd_name H2 n2.in_ _ ?_
  refine ss_one (s_retE (CT := CT) (E := E) (ok := subOk sA sB) (r := rSol F CG) (a := subF sA sB) n2.in_ (ev_og (X := cxD P w F mg base NSub "Solid.__sub__" stSub f cdv A outer s H E) (ls := botL sA sB) (cs := subC sA sB) T Cs Ds hr (passE []) (ev_name 2 rfl hx1) ?_ ok.og) (fun ek v K' H' n hv => qt ek v K' H' (n2.trans n) hv) fun ek => (qf ek).nxt n2)
  obtain ⟨d, kvs, rfl, hd, hp⟩ := hy1
  have ee : ((keyL (onS sA (botL sA sB))).filter (notInB (onS sB (botL sA sB)))).map id = subC sA sB := List.map_id _
  refine EV.imp (r := rLst F rCell) (a := subC sA sB) ?_ fun K' v _ h => .inl h
  rw [← ee]
  refine ev_cdL (u := .dT kvs) (d := d) (.inr (.inl ⟨kvs, rfl⟩)) hd (cd_l1 (own := [("cell", 5)]) (p := notInB (onS sB (botL sA sB))) (xs := keyL (onS sA (botL sA sB))) (f := id) (rr := rCell) (r := rCell) rfl S.nd (es_keysC (ev_name 3 rfl rfl) ⟨d, kvs, rfl, hd, hp⟩) (blkOk_by (N := NSub) (sc := defScope stSub) (by decide +kernel)) (fun _ _ _ _ _ => pg_name (i := 5) S.nd rfl (Or.inl rfl)) ?_ ?_)
  · unfold keyL; rw [List.length_map]; exact ok.z
  · exact fun i c K3 x ex l3 hx => ⟨_, gd_name, wipe_t (by decide), fun s H0 C cl fp => ⟨et_notinC hu (ev_name 5 rfl hx) (ev_name 4 rfl ((rDC rCell).mono l3 hz1)), fun _ => ev_name 5 rfl hx⟩⟩
/-! ### the union -/
def orC (A B : Sol) : List Cell := keyL (dputs (dputs [] (keysU (onS A (botL A B)))) (keysU (onS B (botL A B))))
def orF (A B : Sol) : Sol := ogP (botL A B) (orC A B)
structure OrOk (P : Program) (w : World) (A B : Sol) : Prop where
  both : BothOk A B
  z : (onS A (botL A B)).length + (onS B (botL A B)).length ≤ sz
  d1 : ((onS A (botL A B)).map fun x => hashC P w x.1).Nodup
  d2 : ((onS B (botL A B)).map fun x => hashC P w x.1).Nodup
  og : OgOk (botL A B) (orC A B)
  few : okG (botL A B) (orC A B) = true
abbrev NOr : List Str := ["self", "other", "lines", "mine", "their"]
abbrev spOr (P : Program) (w : World) (F : PySem.W.Frag) (CG : Addr) : Sp := sp2 (rSol F CG) (rSol F CG) (rSol F CG) (OrOk P w) orF
theorem fr_or {f : Addr} (T : TX w F mg) (Cs : CsOk P w F mg CS CG CM CT) (Ds : DsOk P w F mg base CT) (Db : DbO P w F mg base CG) (G : FnAt F f "__or__" "Solid.__or__" stOr ["self", "other"]) : FnR P w F mg base (L2.CX P w) 8 f (spOr P w F CG) := by
  have S : FnScope NOr ["self", "other"] (defScope stOr) := ⟨rfl, rfl, rfl, by decide +kernel, rfl, by decide +kernel, by decide +kernel⟩
  refine fr_fn (N := NOr) G S (fun vs H Q E ⟨K, v, a, u, b, e, _⟩ => by rw [e]; rfl) ?_
  rintro X _ H Q E cdv A outer s rfl hr ⟨K, vA, sA, vB, sB, rfl, le, h1, h2, ok, q⟩
  have hu := hu_of hr
  obtain ⟨fb, mb, gb⟩ := Db.bo
  refine ss_cons (s_asgG (g := gt3 F 2 3 4) (r := rTup3 F (rTupL F (rTupL F rInt)) (rDC rCell) (rDC rCell)) (a := bothF sA sB) (pg_n3 2 3 4 rfl S.nd rfl rfl rfl (Or.inl rfl) (Or.inl rfl) (Or.inl rfl) (Or.inl rfl) (Or.inl rfl) (Or.inl rfl)) le (ev_m2 (b := sA) (a := sB) Cs.og.cl insR_sol mb (fr_both Cs.og Db.dm Db.dc gb) (hr.mono (by decide)) (ev_name 0 rfl h1) (ev_name 1 rfl h2) ok.both) fun v2 K2 H2 n2 ⟨p2, x1, y1, z1, e2, hp2, hx1, hy1, hz1⟩ => ?_)
  subst e2
  refine gd_tup3 hp2 gd_name gd_name gd_name H2 n2.in_ _ ?_
  refine ss_one (s_ret (r := rSol F CG) (a := orF sA sB) n2.in_ (ev_ok (ok := okG (botL sA sB) (orC sA sB)) (z := ogP (botL sA sB) (orC sA sB)) (ev_og (X := cxD P w F mg base NOr "Solid.__or__" stOr f cdv A outer s H E) (ls := botL sA sB) (cs := orC sA sB) T Cs Ds hr passL' (ev_name 2 rfl hx1) (EV.imp (r := rDC rAny) (a := dputs (dputs [] (keysU (onS sA (botL sA sB)))) (keysU (onS sB (botL sA sB)))) ?_ fun K' v _ h => .inr ⟨_, h, rfl⟩) ok.og) ok.few) fun v K' H' n hv => q v K' H' (n2.trans n) hv)
  exact ev_merge hu (ev_name 3 rfl hy1) (ev_name 4 rfl hz1) ok.z ok.d1 fun _ => ok.d2
end
end SN
end TQSO

section TQSR
set_option Elab.async false
set_option linter.all false
set_option maxRecDepth 100000
set_option maxHeartbeats 4000017
/-! QSR: sorted of cells and of boxes, any number of them. -/
namespace SN
open PySem PySem.Spec PyProof.Rows L2 NdefX SrtO

/-! ### sorting by a total order -/
section
variable {κ : Type} (lt : κ → κ → Bool)
def insK (x : κ) : List κ → List κ
  | [] => [x]
  | y :: l => if lt y x = true then y :: insK x l else x :: y :: l
def sortK : List κ → List κ
  | [] => []
  | x :: l => insK lt x (sortK l)
variable {lt}
theorem insK_perm (x : κ) : ∀ l, (insK lt x l).Perm (x :: l)
  | [] => .refl _
  | y :: l => by
    unfold insK
    split
    · exact ((insK_perm x l).cons y).trans (.swap x y l)
    · exact .refl _
theorem sortK_perm : ∀ l, (sortK lt l).Perm l
  | [] => .refl _
  | x :: l => (insK_perm x _).trans ((sortK_perm l).cons x)
theorem insK_srtd (O : Swo lt) (x : κ) : ∀ l, Srtd lt l → Srtd lt (insK lt x l)
  | [], _ => List.pairwise_singleton _ _
  | y :: l, h => by
    obtain ⟨h1, h2⟩ := List.pairwise_cons.mp h
    unfold insK
    split
    · rename_i e
      refine List.pairwise_cons.mpr ⟨fun z hz => ?_, insK_srtd O x l h2⟩
      rcases List.mem_cons.mp ((insK_perm x l).mem_iff.mp hz) with e2 | e2
      · rw [e2]; exact O.asym y x e
      · exact h1 z e2
    · rename_i e
      have e : lt y x = false := by simpa using e
      refine List.pairwise_cons.mpr ⟨fun z hz => ?_, h⟩
      rcases List.mem_cons.mp hz with e2 | e2
      · rw [e2]; exact e
      · exact O.tr x y z e (h1 z e2)
theorem sortK_srtd (O : Swo lt) : ∀ l, Srtd lt (sortK lt l)
  | [] => List.Pairwise.nil
  | x :: l => insK_srtd O x _ (sortK_srtd O l)
theorem sortK_uniq (O : Swo lt) (tri : ∀ a b, lt a b = false → lt b a = false → a = b) {l m : List κ} (h : m.Perm l) (hs : Srtd lt m) : m = sortK lt l :=
  List.Perm.eq_of_pairwise (fun a b _ _ h1 h2 => tri a b h2 h1) hs (sortK_srtd O l) (h.trans (sortK_perm l).symm)
end
/-! ### kinds of keys -/
structure SKind {κ : Type} (prog : Program) (w : World) (is : Heap → Value → κ → Prop) (dec : Heap → Value → κ) (lt : κ → κ → Bool) : Prop where
  swo : Swo lt
  tri : ∀ a b, lt a b = false → lt b a = false → a = b
  dec_of : ∀ {h v c}, is h v c → dec h v = c
  keeps : ∀ {h h' : Heap} {v c}, is h v c → (∀ b o, h.get? b = some o → o.cls = .type "tuple" → h'.get? b = some o) → is h' v c
  kind : ∀ {A : Around} {s : Shared} {vs : List Value}, 0 < vs.length → (∀ v ∈ vs, ∃ c, is s.heap v c) → A.units + 16 < cLine → ∃ sk, (∀ (Q : SortKind → Shared → Prop) (E : Value → Shared → Prop), Q sk s → wpAny (model prog w) A (keyKind' vs.toArray) Q E s) ∧
    ∀ v u c d, is s.heap v c → is s.heap u d → wpAny (model prog w) A (keyLt' sk v u) (fun r s' => s' = s ∧ r = lt c d) (fun _ _ => False) s
theorem swo_on {α κ : Type} {lt : κ → κ → Bool} (O : Swo lt) (k : α → κ) : Swo fun v u => lt (k v) (k u) := ⟨fun x y => O.asym _ _, fun x y z => O.tr _ _ _⟩
section
variable {prog : Program} {w : World} {A : Around} {E : Value → Shared → Prop} {s : Shared} {κ : Type} {is : Heap → Value → κ → Prop} {dec : Heap → Value → κ} {lt : κ → κ → Bool}
theorem k_sortable (D : SKind prog w is dec lt) {a : Addr} {vs : List Value} {k : Value → κ} (h0 : 0 < vs.length) (hu : A.units + 16 < cLine) (hp : ∀ v ∈ vs, is s.heap v (k v)) (ha : ∀ o, s.heap.get? a = some o → o.cls ≠ .type "tuple") : SortableO prog w A s a vs fun v u => lt (k v) (k u) := by
  intro h' keep
  have hp' : ∀ v ∈ vs, is h' v (k v) := fun v hm => D.keeps (hp v hm) fun b o e c => keep b o (fun z => by subst z; exact ha o e c) e
  obtain ⟨sk, h1, h2⟩ := D.kind (A := A) (s := { s with heap := h' }) h0 (fun v hm => ⟨_, hp' v hm⟩) hu
  exact ⟨sk, h1, fun p q hm hm' => h2 _ _ _ _ (hp' _ hm) (hp' _ hm')⟩
theorem sorted_k (D : SKind prog w is dec lt) {l : Addr} {vs : List Value} {Q : Value → Shared → Prop} (hu : A.units + 32 < cLine) (hl : s.heap.IsList l vs.toArray) (hz : vs.length ≤ sizeLine) (hp : ∀ v ∈ vs, ∃ c, is s.heap v c)
    (h : ∀ (h' : Heap) (d : Addr) (out : List Value), out.Perm vs → out.map (dec s.heap) = sortK lt (vs.map (dec s.heap)) → (∀ b o, s.heap.get? b = some o → h'.get? b = some o) → s.heap.objs.size ≤ d → (∃ n, h'.get? d = some (seqObj "list" out.toArray n)) → Q (.ref d) { s with heap := h' }) :
    wpAny (model prog w) A (call (.builtin "sorted") [.ref l]) Q E s := by
  have hp' : ∀ v ∈ vs, is s.heap v (dec s.heap v) := fun v hm => by
    obtain ⟨c, hc⟩ := hp v hm
    rw [D.dec_of hc]; exact hc
  refine sorted_ord (swo_on D.swo (dec s.heap)) hl hz (fun h2 h₁ a ha kk => ?_) fun out hs hb => ?_
  · refine k_sortable D (s := { s with heap := h₁ }) (by omega) (by show A.units + 1 + 1 + 16 < cLine; omega) (fun v hm => D.keeps (hp' v hm) fun b o e _ => (kk b o e).2) fun o e => ?_
    have e' : some o = some (seqObj "list" vs.toArray 0) := e.symm.trans ha
    cases e'
    intro c
    exact absurd (Value.type.inj c) (by decide)
  · exact h _ _ out hb.perm (sortK_uniq D.swo D.tri (hb.perm.map _) (srtd_map hs)) (fun b o e => sortedAll_old e) (Nat.le_succ _) (sortedAll_at s.heap vs out.toArray)
end
/-! ### cells -/
def ltC (c d : Cell) : Bool := HT.lexLt (trip c) (trip d)
theorem ltC_iff {c d : Cell} : ltC c d = true ↔ c.1 < d.1 ∨ c.1 = d.1 ∧ (c.2.1 < d.2.1 ∨ c.2.1 = d.2.1 ∧ c.2.2 < d.2.2) := by
  unfold ltC trip
  rw [HT.lexLt_cons, HT.lexLt_cons, HT.lexLt_cons, HT.lexLt_nil_nil]
  by_cases h1 : c.1 = d.1
  · rw [if_pos h1]
    by_cases h2 : c.2.1 = d.2.1
    · rw [if_pos h2]
      by_cases h3 : c.2.2 = d.2.2
      · rw [if_pos h3]; simp; omega
      · rw [if_neg h3, decide_eq_true_eq]; omega
    · rw [if_neg h2, decide_eq_true_eq]; omega
  · rw [if_neg h1, decide_eq_true_eq]; omega
theorem ltC_no {c d : Cell} : ltC c d = false ↔ ¬ (c.1 < d.1 ∨ c.1 = d.1 ∧ (c.2.1 < d.2.1 ∨ c.2.1 = d.2.1 ∧ c.2.2 < d.2.2)) := by
  rw [← ltC_iff]; cases ltC c d <;> simp
theorem ltC_swo : Swo ltC := by
  refine ⟨fun x y h => ?_, fun x y z h1 h2 => ?_⟩
  · have a := ltC_iff.mp h
    exact ltC_no.mpr (by omega)
  · have a := ltC_no.mp h1
    have b := ltC_no.mp h2
    exact ltC_no.mpr (by omega)
theorem ltC_tri (a b : Cell) (h1 : ltC a b = false) (h2 : ltC b a = false) : a = b := by
  have x := ltC_no.mp h1
  have y := ltC_no.mp h2
  obtain ⟨a0, a1, a2⟩ := a
  obtain ⟨b0, b1, b2⟩ := b
  simp only at x y
  have e0 : a0 = b0 := by omega
  have e1 : a1 = b1 := by omega
  have e2 : a2 = b2 := by omega
  rw [e0, e1, e2]
def IsTp (h : Heap) (v : Value) (c : Cell) : Prop := ∃ a o t u x n, v = .ref a ∧ h.get? a = some o ∧ o.cls = .type "tuple" ∧ o.data = .seq #[.int c.1 t, .int c.2.1 u, .int c.2.2 x] n
def iVal : Option Value → Int
  | some (.int i _) => i
  | _ => 0
def rVal' : Option Value → Value
  | some v => v
  | _ => .none
def items (h : Heap) (v : Value) : Array Value := match v with
  | .ref a => match h.get? a with
    | some o => match o.data with
      | .seq xs _ => xs
      | _ => #[]
    | none => #[]
  | _ => #[]
def decC (h : Heap) (v : Value) : Cell := (iVal (items h v)[0]?, iVal (items h v)[1]?, iVal (items h v)[2]?)
theorem items_of {h : Heap} {a : Addr} {o : Obj} {xs : Array Value} {n : Nat} (h1 : h.get? a = some o) (h2 : o.data = .seq xs n) : items h (.ref a) = xs := by
  unfold items
  simp only [h1, h2]
theorem IsTp.dec {h : Heap} {v : Value} {c : Cell} (p : IsTp h v c) : decC h v = c := by
  obtain ⟨a, o, t, u, x, n, rfl, h1, h2, h3⟩ := p
  unfold decC
  rw [items_of h1 h3]
  rfl
theorem IsTp.keeps {h h' : Heap} {v : Value} {c : Cell} (p : IsTp h v c) (k : ∀ b o, h.get? b = some o → o.cls = .type "tuple" → h'.get? b = some o) : IsTp h' v c := by
  obtain ⟨a, o, t, u, x, n, e, ho, hc, hd⟩ := p
  exact ⟨a, o, t, u, x, n, e, k _ _ ho hc, hc, hd⟩
theorem firstsC {h : Heap} : ∀ {vs : List Value}, (∀ v ∈ vs, ∃ c, IsTp h v c) → ∃ fs : List Value, PySem.W.KatTups h vs fs ∧ fs.length = vs.length ∧ ∀ f ∈ fs, ∃ x t, f = Value.int x t
  | [], _ => ⟨[], PySem.W.KatTups.nil, rfl, fun _ hm => by simp at hm⟩
  | v :: vs, hp => by
    obtain ⟨fs, h1, h2, h3⟩ := firstsC (vs := vs) fun v' hm => hp v' (List.mem_cons_of_mem _ hm)
    obtain ⟨c, a, o, t, u, x, n, e, ho, hc, hd⟩ := hp v (List.mem_cons_self ..)
    subst e
    refine ⟨.int c.1 t :: fs, PySem.W.KatTups.cons ho hc hd rfl h1, by rw [List.length_cons, List.length_cons, h2], fun f hm => ?_⟩
    rcases List.mem_cons.mp hm with rfl | hm
    · exact ⟨_, t, rfl⟩
    · exact h3 f hm
section
variable {prog : Program} {w : World} {A : Around} {s : Shared}
theorem kat_ints {b fin : Bool} {Q : Bool → Shared → Prop} {x y : Int} {t u : Tok} {r : List (Value × Value)} {i : Nat} (h1 : x = y → PySem.W.KatLex prog w A b fin Q r (i + 1) s) (h2 : x ≠ y → Q (decide (x < y)) s) :
    PySem.W.KatLex prog w A b fin Q ((.int x t, .int y u) :: r) i s := by
  refine PySem.W.kat_cons (SeqAt.EqAt.int_int x t y u prog w _ _ ?_)
  refine PySem.W.kat_go (fun e1 => ?_) (fun e1 => ?_)
  · exact PySem.W.kat_yes (h1 (by simpa using e1))
  · exact PySem.W.kat_no (TS.oneLt_ints _ (h2 (by simpa using e1)))
theorem cmpC {b : Bool} {v u : Value} {c d : Cell} (hv : IsTp s.heap v c) (hu : IsTp s.heap u d) : wpAny (model prog w) A (keyLt' (tuples' b) v u) (fun r s' => s' = s ∧ r = ltC c d) (fun _ _ => False) s := by
  obtain ⟨a, o, t, u, x, n, rfl, ho, hc, hd⟩ := hv
  obtain ⟨a', o', t', u', x', n', rfl, ho', hc', hd'⟩ := hu
  refine PySem.W.kat_lt ho hd ho' hd' ?_
  have e : ltC c d = if c.1 = d.1 then (if c.2.1 = d.2.1 then (if c.2.2 = d.2.2 then false else decide (c.2.2 < d.2.2)) else decide (c.2.1 < d.2.1)) else decide (c.1 < d.1) := rfl
  rw [e]
  show PySem.W.KatLex prog w A b (decide (3 < 3)) _ [(.int c.1 t, .int d.1 t'), (.int c.2.1 u, .int d.2.1 u'), (.int c.2.2 x, .int d.2.2 x')] 0 s
  refine kat_ints (fun e1 => kat_ints (fun e2 => kat_ints (fun e3 => PySem.W.kat_nil ⟨rfl, ?_⟩) fun e3 => ⟨rfl, ?_⟩) fun e2 => ⟨rfl, ?_⟩) fun e1 => ⟨rfl, ?_⟩
  · rw [if_pos e1, if_pos e2, if_pos e3]; rfl
  · rw [if_pos e1, if_pos e2, if_neg e3]
  · rw [if_pos e1, if_neg e2]
  · rw [if_neg e1]
theorem kC : SKind prog w IsTp decC ltC where
  swo := ltC_swo
  tri := ltC_tri
  dec_of := fun h => h.dec
  keeps := fun h k => h.keeps k
  kind := fun {A s vs} h0 hp hu => by
    obtain ⟨fs, h1, h2, h3⟩ := firstsC hp
    refine ⟨tuples' true, fun Q E hq => ?_, fun v u c d hv hu => cmpC hv hu⟩
    refine PySem.W.kat_kind (T := .type "int") h1 (by omega) (fun f hm => ?_) (by rfl) ?_
    · obtain ⟨x, t, rfl⟩ := h3 f hm
      exact PySem.W.Looks.now
    · have e : (Value.type "int" != Value.type "tuple") = true := by first | decide +kernel | rfl | decide
      rw [e]
      exact hq
/-! ### boxes -/
theorem eqTp {v u : Value} {c d : Cell} (hv : IsTp s.heap v c) (hu : IsTp s.heap u d) (hA : A.units + 1 < cLine) : SeqAt.EqAt A s v u (decide (c = d)) := by
  obtain ⟨a, o, t, u, x, n, rfl, ho, hc, hd⟩ := hv
  obtain ⟨a', o', t', u', x', n', rfl, ho', hc', hd'⟩ := hu
  by_cases z : a = a'
  · subst z
    have e1 : o = o' := Option.some.inj (ho.symm.trans ho')
    subst e1
    rw [hd] at hd'
    have e2 : c = d := by
      obtain ⟨c0, c1, c2⟩ := c
      obtain ⟨d0, d1, d2⟩ := d
      injection hd' with e3 e4
      simp at e3
      obtain ⟨⟨e5, _⟩, ⟨e6, _⟩, e7, _⟩ := e3
      rw [e5, e6, e7]
    rw [decide_eq_true e2]
    exact SeqAt.EqAt.same _
  · have e : decide (c = d) = ((List.range (min (#[Value.int c.1 t, .int c.2.1 u, .int c.2.2 x] : Array Value).size (#[Value.int d.1 t', .int d.2.1 u', .int d.2.2 x'] : Array Value).size)).all (fun j => if j = 0 then c.1 == d.1 else if j = 1 then c.2.1 == d.2.1 else c.2.2 == d.2.2) && (#[Value.int c.1 t, .int c.2.1 u, .int c.2.2 x] : Array Value).size == (#[Value.int d.1 t', .int d.2.1 u', .int d.2.2 x'] : Array Value).size) := by
      rw [Bool.eq_iff_iff, decide_eq_true_eq]
      obtain ⟨c0, c1, c2⟩ := c
      obtain ⟨d0, d1, d2⟩ := d
      simp [List.range, List.range.loop]
    rw [e]
    refine SeqAt.EqAt.of_refs z (SeqAt.RcAt.tuples ⟨o, ho, hc, n, hd⟩ ⟨o', ho', hc', n', hd'⟩ (by omega) fun j h1 h2 => ?_)
    match j, h1 with
    | 0, _ => exact SeqAt.EqAt.int_int _ _ _ _
    | 1, _ => exact SeqAt.EqAt.int_int _ _ _ _
    | 2, _ => exact SeqAt.EqAt.int_int _ _ _ _
def ltB (b d : Box) : Bool := if b.1 = d.1 then (if b.2 = d.2 then false else ltC b.2 d.2) else ltC b.1 d.1
theorem ltC_irr (c : Cell) : ltC c c = false := ltC_no.mpr (by omega)
theorem ltB_swo : Swo ltB := by
  refine ⟨fun x y h => ?_, fun x y z h1 h2 => ?_⟩
  · unfold ltB at h ⊢
    by_cases e : x.1 = y.1
    · rw [if_pos e] at h; rw [if_pos e.symm]
      by_cases e2 : x.2 = y.2
      · rw [if_pos e2] at h; cases h
      · rw [if_neg e2] at h; rw [if_neg (Ne.symm e2)]; exact ltC_swo.asym _ _ h
    · rw [if_neg e] at h; rw [if_neg (Ne.symm e)]; exact ltC_swo.asym _ _ h
  · have f : ∀ {a b : Box}, ltB a b = false → ltC a.1 b.1 = false ∧ (a.1 = b.1 → ltC a.2 b.2 = false) := fun {a b} h => by
      unfold ltB at h
      by_cases e : a.1 = b.1
      · rw [if_pos e] at h
        refine ⟨by rw [e]; exact ltC_irr _, fun _ => ?_⟩
        by_cases e2 : a.2 = b.2
        · rw [e2]; exact ltC_irr _
        · rw [if_neg e2] at h; exact h
      · rw [if_neg e] at h
        exact ⟨h, fun z => absurd z e⟩
    obtain ⟨a1, a2⟩ := f h1
    obtain ⟨b1, b2⟩ := f h2
    have c1 := ltC_swo.tr _ _ _ a1 b1
    unfold ltB
    by_cases e : z.1 = x.1
    · rw [if_pos e]
      by_cases e2 : z.2 = x.2
      · rw [if_pos e2]
      · rw [if_neg e2]
        have e3 : y.1 = x.1 := ltC_tri _ _ a1 (by rw [← e]; exact b1)
        exact ltC_swo.tr _ _ _ (a2 e3) (b2 (e.trans e3.symm))
    · rw [if_neg e]; exact c1
theorem ltB_tri (a b : Box) (h1 : ltB a b = false) (h2 : ltB b a = false) : a = b := by
  unfold ltB at h1 h2
  by_cases e : a.1 = b.1
  · rw [if_pos e] at h1
    rw [if_pos e.symm] at h2
    by_cases e2 : a.2 = b.2
    · exact Prod.ext e e2
    · rw [if_neg e2] at h1
      rw [if_neg (Ne.symm e2)] at h2
      exact Prod.ext e (ltC_tri _ _ h1 h2)
  · rw [if_neg e] at h1
    rw [if_neg (Ne.symm e)] at h2
    exact absurd (ltC_tri _ _ h1 h2) e
def IsBx (h : Heap) (v : Value) (b : Box) : Prop := ∃ a o p q n, v = .ref a ∧ h.get? a = some o ∧ o.cls = .type "tuple" ∧ o.data = .seq #[p, q] n ∧ IsTp h p b.1 ∧ IsTp h q b.2
def decB (h : Heap) (v : Value) : Box := (decC h (rVal' (items h v)[0]?), decC h (rVal' (items h v)[1]?))
theorem IsBx.dec {h : Heap} {v : Value} {b : Box} (p : IsBx h v b) : decB h v = b := by
  obtain ⟨a, o, p, q, n, rfl, h1, h2, h3, h4, h5⟩ := p
  unfold decB
  rw [items_of h1 h3]
  exact Prod.ext h4.dec h5.dec
theorem IsBx.keeps {h h' : Heap} {v : Value} {b : Box} (p : IsBx h v b) (k : ∀ b o, h.get? b = some o → o.cls = .type "tuple" → h'.get? b = some o) : IsBx h' v b := by
  obtain ⟨a, o, p, q, n, e, ho, hc, hd, h4, h5⟩ := p
  exact ⟨a, o, p, q, n, e, k _ _ ho hc, hc, hd, h4.keeps k, h5.keeps k⟩
theorem firstsB {h : Heap} : ∀ {vs : List Value}, (∀ v ∈ vs, ∃ c, IsBx h v c) → ∃ fs : List Value, PySem.W.KatTups h vs fs ∧ fs.length = vs.length ∧ ∀ f ∈ fs, ∃ q o, f = Value.ref q ∧ h.get? q = some o ∧ o.cls = .type "tuple"
  | [], _ => ⟨[], PySem.W.KatTups.nil, rfl, fun _ hm => by simp at hm⟩
  | v :: vs, hp => by
    obtain ⟨fs, h1, h2, h3⟩ := firstsB (vs := vs) fun v' hm => hp v' (List.mem_cons_of_mem _ hm)
    obtain ⟨c, a, o, p, q, n, e, ho, hc, hd, h4, h5⟩ := hp v (List.mem_cons_self ..)
    subst e
    obtain ⟨a2, o2, _, _, _, _, rfl, ho2, hc2, _⟩ := h4
    refine ⟨.ref a2 :: fs, PySem.W.KatTups.cons ho hc hd rfl h1, by rw [List.length_cons, List.length_cons, h2], fun f hm => ?_⟩
    rcases List.mem_cons.mp hm with rfl | hm
    · exact ⟨a2, o2, rfl, ho2, hc2⟩
    · exact h3 f hm
theorem ltTp {v u : Value} {c d : Cell} {Q : Bool → Shared → Prop} (hv : IsTp s.heap v c) (hu : IsTp s.heap u d) (hA : A.units + 1 < cLine) (q : Q (ltC c d) s) : wpAny (model prog w) A (oneLt' false v u) Q (fun _ _ => False) s := by
  obtain ⟨a, o, t, u, x, n, rfl, ho, hc, hd⟩ := hv
  obtain ⟨a', o', t', u', x', n', rfl, ho', hc', hd'⟩ := hu
  refine PySem.W.kat_one _ _ (HT.lt_tupInts (ns := trip c) (ms := trip d) ⟨o, ho, hc, n, hd⟩ ⟨o', ho', hc', n', hd'⟩ ?_ ?_ (by omega) q)
  · exact .cons _ _ (.cons _ _ (.cons _ _ .nil))
  · exact .cons _ _ (.cons _ _ (.cons _ _ .nil))
theorem cmpB {v u : Value} {c d : Box} (hA : A.units + 16 < cLine) (hv : IsBx s.heap v c) (hu : IsBx s.heap u d) : wpAny (model prog w) A (keyLt' (tuples' false) v u) (fun r s' => s' = s ∧ r = ltB c d) (fun _ _ => False) s := by
  obtain ⟨a, o, p, q, n, rfl, ho, hc, hd, h4, h5⟩ := hv
  obtain ⟨a', o', p', q', n', rfl, ho', hc', hd', h4', h5'⟩ := hu
  refine PySem.W.kat_lt ho hd ho' hd' ?_
  show PySem.W.KatLex prog w A false (decide (2 < 2)) _ [(p, p'), (q, q')] 0 s
  refine PySem.W.kat_cons (eqTp h4 h4' (by omega) prog w _ _ ?_)
  refine PySem.W.kat_go (fun e1 => PySem.W.kat_yes (PySem.W.kat_cons (eqTp h5 h5' (by omega) prog w _ _ ?_))) (fun e1 => PySem.W.kat_no (ltTp h4 h4' (by omega) ⟨rfl, ?_⟩))
  · have e1 := of_decide_eq_true e1
    refine PySem.W.kat_go (fun e2 => PySem.W.kat_yes (PySem.W.kat_nil ⟨rfl, ?_⟩)) (fun e2 => PySem.W.kat_no (ltTp h5 h5' (by omega) ⟨rfl, ?_⟩))
    · unfold ltB; rw [if_pos e1, if_pos (of_decide_eq_true e2)]; rfl
    · unfold ltB; rw [if_pos e1, if_neg (of_decide_eq_false e2)]
  · unfold ltB; rw [if_neg (of_decide_eq_false e1)]
theorem kB : SKind prog w IsBx decB ltB where
  swo := ltB_swo
  tri := ltB_tri
  dec_of := fun h => h.dec
  keeps := fun h k => h.keeps k
  kind := fun {A s vs} h0 hp hu => by
    obtain ⟨fs, h1, h2, h3⟩ := firstsB hp
    refine ⟨tuples' false, fun Q E hq => ?_, fun v u c d hv hu' => cmpB hu hv hu'⟩
    refine PySem.W.kat_kind (T := .type "tuple") h1 (by omega) (fun f hm => ?_) (by rfl) ?_
    · obtain ⟨q, o, rfl, ho, hc⟩ := h3 f hm
      have z : PySem.W.Looks (model prog w) s.heap (typeOf (.ref q)) o.cls := (PySem.W.Looks.ld ho).andThen .now
      rw [hc] at z
      exact z
    · have e : (Value.type "tuple" != Value.type "tuple") = false := by first | decide +kernel | rfl | decide
      rw [e]
      exact hq
end
end SN
end TQSR

section TQST
set_option Elab.async false
set_option linter.all false
set_option maxRecDepth 100000
set_option maxHeartbeats 4000017
/-! QST: sorted(..) by data: a list of boxes, a dict of cells. -/
namespace SN
open PySem PySem.Spec PyProof.Rows L2 NdefX SrtO
section
variable {P : Program} {w : World} {H K : Hp} {h : Heap}
theorem tp_of (ok : HOk P w H h) {t : Addr} {a b c : Int} (e : H t = some (.tup [.int a, .int b, .int c])) : IsTp h (.ref t) (a, b, c) := by
  obtain ⟨_, its, r2, o, ho, hc, n, hd⟩ := ok _ _ e
  obtain ⟨u1, u2, u3, rfl, q1, q2, q3⟩ : ∃ u1 u2 u3, its = [u1, u2, u3] ∧ RelV (.int a) u1 ∧ RelV (.int b) u2 ∧ RelV (.int c) u3 := by
    cases r2 with
    | cons x1 y1 => cases y1 with
      | cons x2 y2 => cases y2 with
        | cons x3 y3 => cases y3 with
          | nil => exact ⟨_, _, _, rfl, x1, x2, x3⟩
  obtain ⟨t1, rfl⟩ := q1
  obtain ⟨t2, rfl⟩ := q2
  obtain ⟨t3, rfl⟩ := q3
  exact ⟨t, o, t1, t2, t3, n, rfl, ho, hc, hd⟩
theorem tp_cell (ok : HOk P w H h) (l : Le K H) {v : V} {c : Cell} (r : rCell.r K v c) : ∃ t, v = .ref t ∧ IsTp h (.ref t) c := by
  obtain ⟨t, rfl, e⟩ := r
  exact ⟨t, rfl, tp_of ok (co_tup.mp (l t _ e))⟩
theorem bx_box (ok : HOk P w H h) (l : Le K H) {v : V} {b : Box} (r : rBox.r K v b) : ∃ t, v = .ref t ∧ IsBx h (.ref t) b := by
  obtain ⟨t, x, y, rfl, e, h1, h2⟩ := r
  obtain ⟨_, its, r2, o, ho, hc, n, hd⟩ := ok _ _ (co_tup.mp (l t _ e))
  obtain ⟨u1, u2, rfl, q1, q2⟩ := vals2 r2
  obtain ⟨t1, rfl, g1⟩ := tp_cell ok l h1
  obtain ⟨t2, rfl, g2⟩ := tp_cell ok l h2
  obtain rfl : u1 = .ref t1 := q1
  obtain rfl : u2 = .ref t2 := q2
  exact ⟨t, rfl, t, o, .ref t1, .ref t2, n, rfl, ho, hc, hd, g1, g2⟩
end
/-- all tuples of the heap are known -/
def tups (K H : Hp) : Hp := fun a => match K a with
  | some o => some o
  | none => match H a with
    | some (.tup xs) => some (.tup xs)
    | _ => none
theorem nxt_tups {K H : Hp} (l : Le K H) : Nxt K H (tups K H) H where
  le := fun a c h => by
    unfold co tups at *
    cases q : K a with
    | none => rw [q] at h; cases h
    | some o => rw [q] at h; exact h
  in_ := fun a c h => by
    unfold co tups at h
    cases q : K a with
    | some o => rw [q] at h; exact l a c (by unfold co; rw [q]; exact h)
    | none =>
      rw [q] at h
      cases z : H a with
      | none => rw [z] at h; cases h
      | some o =>
        rw [z] at h
        cases o <;> first | (cases h; done) | (unfold co; rw [z]; exact h)
  same := Same.refl _
  out := fun a o h1 h2 h3 => by
    unfold tups
    rw [h3, h1]
    cases o <;> first | rfl | (cases h2; done)
theorem tups_at {K H : Hp} (l : Le K H) {p : Addr} {xs : List V} (h : H p = some (.tup xs)) : co (tups K H) p = some (.tup xs) := by
  unfold co tups
  cases q : K p with
  | some o =>
    have := l p (core o) (by unfold co; rw [q]; rfl)
    rw [co_of h rfl] at this
    exact this.symm
  | none => simp only [h]; rfl
theorem cells_known {K H : Hp} (l : Le K H) {ys : List V} {cs : List Cell} (h : Paired (rCell.r H) ys cs) : ∃ K', Nxt K H K' H ∧ Paired (rCell.r K') ys cs :=
  ⟨tups K H, nxt_tups l, Paired.imp (fun _ _ ⟨p, e, hp⟩ => ⟨p, e, tups_at l (co_tup.mp hp)⟩) h⟩
section
variable {prog : Program} {w : World} {κ : Type} {r : Rel κ} {is : Heap → Value → κ → Prop} {dec : Heap → Value → κ} {lt : κ → κ → Bool} {K : Hp} {h : Heap}
/-- what the values stand for -/
theorem dec_map (D : SKind prog w is dec lt) (hR : ∀ v c, r.r K v c → ∃ t, v = .ref t ∧ is h (.ref t) c) : ∀ {xs : List V} {its : List Value} {l : List κ}, Vals xs its → Paired (r.r K) xs l → its.map (dec h) = l ∧ (∀ v ∈ its, ∃ t, v = .ref t ∧ ∃ c, is h v c ∧ r.r K (.ref t) c)
  | _, _, _, .nil, .nil => ⟨rfl, fun v hv => absurd hv (by simp)⟩
  | _, _, _, .cons a t, .cons b t2 => by
    obtain ⟨h1, h2⟩ := dec_map D hR t t2
    obtain ⟨q, rfl, hq⟩ := hR _ _ b
    cases a
    refine ⟨by rw [List.map_cons, h1, D.dec_of hq], fun v hv => ?_⟩
    rcases List.mem_cons.mp hv with e | e
    · subst e; exact ⟨q, rfl, _, hq, b⟩
    · exact h2 v e
theorem out_pair (D : SKind prog w is dec lt) : ∀ {out : List Value}, (∀ v ∈ out, ∃ t, v = .ref t ∧ ∃ c, is h v c ∧ r.r K (.ref t) c) → Paired (r.r K) (out.map backV) (out.map (dec h))
  | [], _ => .nil
  | v :: out, hp => by
    obtain ⟨t, rfl, c, hc, hr⟩ := hp v (List.mem_cons_self ..)
    refine .cons ?_ (out_pair D fun u hu => hp u (List.mem_cons_of_mem _ hu))
    rw [D.dec_of hc]
    exact hr
end
section
variable {prog : Program} {w : World} {A : Around} {E : Value → Shared → Prop} {s : Shared} {κ : Type} {is : Heap → Value → κ → Prop} {dec : Heap → Value → κ} {lt : κ → κ → Bool}
theorem sort_l (D : SKind prog w is dec lt) {a : Addr} {vs : List Value} {n : Nat} {R : PySem.Fin → Shared → Prop} (hu : A.units + 16 < cLine) (ho : s.heap.get? a = some (seqObj "list" vs.toArray n)) (hz : vs.length ≤ sizeLine) (hp : ∀ v ∈ vs, ∃ c, is s.heap v c)
    (h : ∀ out : List Value, out.Perm vs → out.map (dec s.heap) = sortK lt (vs.map (dec s.heap)) → R (.done (.ret .none)) { s with heap := sortedHeap s.heap a vs out.toArray }) :
    wpAny (model prog w) A (Builtin.«list.sort» ⟨[.ref a], []⟩) R E s := by
  have hp' : ∀ v ∈ vs, is s.heap v (dec s.heap v) := fun v hm => by
    obtain ⟨c, hc⟩ := hp v hm
    rw [D.dec_of hc]; exact hc
  refine list_sort_ord (swo_on D.swo (dec s.heap)) ho hz (fun h2 => k_sortable D (by omega) hu hp' fun o e => ?_) fun out hs hb => h out hb.perm (sortK_uniq D.swo D.tri (hb.perm.map _) (srtd_map hs))
  have e' : some o = some (seqObj "list" vs.toArray n) := e.symm.trans ho
  cases e'
  intro c
  exact absurd (Value.type.inj c) (by decide)
end
section
variable {X : Cx}
theorem cr_sortB (hu : X.A.units + 32 < cLine) : CallR X (.builtin "sorted") (fun vs H Q => ∃ K a xs bs, vs = [V.ref a] ∧ Le K H ∧ SqL X.K K a xs ∧ Paired (rBox.r K) xs bs ∧ ∀ ys p, H p = none → Paired (rBox.r K) ys (sortK ltB bs) → Q (.ref p) (upd H p (.lst ys))) := by
  intro pins s σ H vs us Q I r h
  obtain ⟨K, a, xs, bs, rfl, le, hs, hp, q⟩ := h
  obtain ⟨its, rv, hl, hz⟩ := I.list (le_L le hs)
  obtain rfl := Vals.ref1 r
  obtain ⟨e1, e2⟩ := dec_map (kB (prog := X.prog) (w := X.w)) (fun v c hr => bx_box I.hok le hr) rv hp
  refine sorted_k kB hu hl.isList (by rw [← rv.length]; exact hz) (fun v hv => ?_) fun h' d out h1 h2 kp hd hn => ?_
  · obtain ⟨t, _, c, hc, _⟩ := e2 v hv
    exact ⟨c, hc⟩
  · have h3 : ∀ v ∈ out, ∃ t, v = .ref t ∧ ∃ c, IsBx s.heap v c ∧ rBox.r K (.ref t) c := fun v hv => e2 v (h1.mem_iff.mp hv)
    have h4 := out_pair (kB (prog := X.prog) (w := X.w)) h3
    rw [h2, e1] at h4
    obtain ⟨n, hn⟩ := hn
    refine ⟨.ref d, upd H d (.lst (out.map backV)), I.laid (t' := s.toks) kp hd ⟨?_, out, n, vals_back (fun v hv => let ⟨t, e, _⟩ := h3 v hv; ⟨t, e⟩), hn⟩, rfl, q _ d (I.hok.fresh hd) h4⟩
    rw [List.length_map, h1.length_eq, ← rv.length]; exact hz
theorem cr_sortC {α : Type} {rr : Rel α} (hc : X.calm = true) (hu : X.A.units + 32 < cLine) : CallR X (.builtin "sorted") (fun vs H Q => ∃ K v l, vs = [v] ∧ Le K H ∧ (rDC rr).r K v l ∧ ∀ ys p, H p = none → Paired (rCell.r H) ys (sortK ltC (keyL l)) → Q (.ref p) (upd H p (.lst ys))) := by
  intro pins s σ H vs us Q I r h
  obtain ⟨K, v, l, rfl, le, ⟨a, kvs, rfl, hd, hp⟩, q⟩ := h
  obtain rfl := Vals.ref1 r
  obtain ⟨z, lo, xs, kt, m⟩ := dt_rd I.hok (co_dT.mp (le a _ hd))
  obtain ⟨o, es, ep, at_, cl, dat, en, all, nd⟩ := id m
  have zs : es.size = xs.length := by
    have := congrArg List.length en
    simpa using this
  have zk : kvs.length = xs.length := Paired.length kt
  refine Calls.call_function_entry PyProof.Rows.kind_sorted PyProof.Rows.plain_sorted PyProof.Rows.entry_sorted (PyProof.Rows.args_sorted1 _) ?_
  unfold Builtin.«sorted»
  refine wpAny_bind (m := checkCount "sorted" 1 1 _) (wpAny_pure ?_)
  refine wpAny_bind (PySem.W.kdu_collect (A := X.A.in1) (OK := fun h => h.DictRaw a es ep) (PySem.KdlSrc.rawDict lo) (I.ok.hd hc) ⟨o, at_, cl, dat⟩ (by omega) fun h' tk acc hk hacc => ?_)
  have ea : acc.toList = xs.map fun x => Value.ref x.2.1 := by
    refine List.ext_getElem? fun i => ?_
    rcases Nat.lt_or_ge i acc.size with hi | hi
    · obtain ⟨hi2, e⟩ := hacc.2 i acc[i] (by simp [hi])
      have h3 : es.toList[i]? = some es[i] := by simp [hi2]
      rw [en, List.getElem?_map] at h3
      rw [List.getElem?_map]
      cases h4 : xs[i]? with
      | none => rw [h4] at h3; cases h3
      | some x =>
        rw [h4] at h3
        have h5 : entryOfKey (tupleKind (mixKind X.prog X.w)) x = es[i] := Option.some.inj h3
        have : acc.toList[i]? = some acc[i] := by simp [hi]
        rw [this, e, ← h5]; rfl
    · have h1 : acc.size = es.size := hacc.1
      rw [List.getElem?_eq_none (by simpa using hi), List.getElem?_eq_none (by rw [List.length_map]; omega)]
  have I1 : Inv X pins σ H { s with heap := h', toks := tk } := I.kept hk
  have hV : Vals (xs.map fun x => V.ref x.2.1) acc.toList := by
    rw [ea]
    clear ea zs zk en all nd m kt
    induction xs with
    | nil => exact .nil
    | cons x xs ih => exact .cons rfl ih
  have hP : Paired (rCell.r H) (xs.map fun x => V.ref x.2.1) (keyL l) := by
    have kt' : Paired (fun (p : List Key × V) (q : List Key × Addr × Value) => p.1 = q.1 ∧ H q.2.1 = some (.tup (p.1.map kV)) ∧ RelV p.2 q.2.2) kvs xs := kt
    unfold keyL
    clear kt hV I1 ea hacc zk zs nd all en m z q at_ hd
    induction hp generalizing xs with
    | nil => cases kt'; exact .nil
    | cons b _ ih =>
      cases kt' with
      | cons c t =>
        refine .cons ⟨_, rfl, co_tup.mpr ?_⟩ (ih _ t)
        rw [c.2.1, b.1]; rfl
  have hz : acc.toList.length ≤ sizeLine := by rw [ea, List.length_map]; omega
  refine wpAny_bind (wpAny_newList ?_ hz)
  have hoL : (h'.push (seqObj "list" acc.toList.toArray 0)).get? h'.objs.size = some (seqObj "list" acc.toList.toArray 0) := Heap.get?_push_size _ rfl
  show wpAny _ _ _ _ _ { s with heap := h'.push (seqObj "list" acc.toList.toArray 0), toks := tk }
  have hR : ∀ v c, rCell.r H v c → ∃ t, v = .ref t ∧ IsTp (h'.push (seqObj "list" acc.toList.toArray 0)) (.ref t) c := fun v c hr => by
    obtain ⟨t, e, g⟩ := tp_cell I1.hok (Le.refl H) hr
    exact ⟨t, e, g.keeps fun b u e2 _ => Heap.get?_push_of_some _ e2⟩
  obtain ⟨e1, e2⟩ := dec_map (kC (prog := X.prog) (w := X.w)) hR hV hP
  refine wpAny_bind (wpAny_holding (wpAny_call_entry PyProof.Rows.slot_list_sort ⟨_, hoL, rfl⟩ PyProof.Rows.entry_list_sort
    (sort_l (s := { s with heap := h'.push (seqObj "list" acc.toList.toArray 0), toks := tk }) kC (by show X.A.units + 1 + 1 + 16 < cLine; omega) hoL hz (fun v hv => ?_) fun out h1 h2 => ⟨_, rfl, ?_⟩) (PyProof.Rows.args_list_sort _)))
  · obtain ⟨t, _, c, hc, _⟩ := e2 v hv
    exact ⟨c, hc⟩
  have h3 : ∀ v ∈ out, ∃ t, v = .ref t ∧ ∃ c, IsTp (h'.push (seqObj "list" acc.toList.toArray 0)) v c ∧ rCell.r H (.ref t) c := fun v hv => e2 v (h1.mem_iff.mp hv)
  have h4 := out_pair (kC (prog := X.prog) (w := X.w)) h3
  rw [h2, e1] at h4
  obtain ⟨e', he'⟩ := PyProof.Rows.sortedHeap_at (vs := acc.toList) (out := out.toArray) hoL
  refine wpAny_pure ⟨_, rfl, .ref h'.objs.size, upd H h'.objs.size (.lst (out.map backV)), I1.laid (t' := tk) (fun b u e => ?_) (Nat.le_refl _)
    (show ObjOk X.prog X.w _ _ _ (.lst (out.map backV)) from ⟨by rw [List.length_map, h1.length_eq]; exact hz, out, e', vals_back (fun v hv => let ⟨t, e, _⟩ := h3 v hv; ⟨t, e⟩), he'⟩), rfl, q _ _ (I1.hok.fresh (Nat.le_refl _)) h4⟩
  have hb : b < h'.objs.size := Heap.lt_size e
  rw [PyProof.Rows.sortedHeap_old (Nat.ne_of_lt hb) (by rw [size_push']; exact Nat.lt_succ_of_lt hb)]
  exact Heap.get?_push_of_some _ e
end
section
variable {X : Cx} {α : Type} {rr : Rel α} {σ : L2.St} {K : Hp} {e : Expr} {p pos : Pos}
theorem ev_sortB {bs : List Box} (hu : X.A.units + 32 < cLine) (hm : X.mg "sorted" = none) (h : EV X e σ K (rLst X.K rBox) bs) (hg : Gl X "sorted" := by rfl) (he : starEach [e] X.env = (false, eval e X.env) :: starEach [] X.env := by rfl) (hpl : (backTo pos (starEach [] X.env)).any (·.1) = false := by rfl) :
    EV X (.Call (.Name "sorted" p) [e] [] pos) σ K (rLst X.K rBox) (sortK ltB bs) :=
  ev_callB (cr_sortB hu) hm (by decide +kernel) (ea_1 h he) (fun vs K1 H1 Q _ l ⟨v, _, e1, ⟨a, xs, e2, h1, h2⟩, e3⟩ q => by
    subst e3; subst e1; subst e2
    exact ⟨K1, a, xs, bs, rfl, l, h1, h2, fun ys p hp hys => q _ _ _ (.new l hp) ⟨p, ys, rfl, SqL.of upd_same, Paired.imp (fun _ _ y => rBox.mono (le_new' (l.fresh hp)) y) hys⟩⟩) hg (by decide) (by decide) he hpl
theorem ev_sortC {l : List (Cell × α)} (hc : X.calm = true) (hu : X.A.units + 32 < cLine) (hm : X.mg "sorted" = none) (h : EV X e σ K (rDC rr) l) (hg : Gl X "sorted" := by rfl) (he : starEach [e] X.env = (false, eval e X.env) :: starEach [] X.env := by rfl) (hpl : (backTo pos (starEach [] X.env)).any (·.1) = false := by rfl) :
    EV X (.Call (.Name "sorted" p) [e] [] pos) σ K (rLst X.K rCell) (sortK ltC (keyL l)) :=
  ev_callB (cr_sortC (rr := rr) hc hu) hm (by decide +kernel) (ea_1 h he) (fun vs K1 H1 Q _ le ⟨v, _, e1, hv, e3⟩ q => by
    subst e3; subst e1
    refine ⟨K1, v, l, rfl, le, hv, fun ys p hp hys => ?_⟩
    obtain ⟨K2, n2, hP⟩ := cells_known le hys
    exact q _ _ _ (n2.trans (.new n2.in_ hp)) ⟨p, ys, rfl, SqL.of upd_same, Paired.imp (fun _ _ y => rCell.mono (le_new' (n2.in_.fresh hp)) y) hP⟩) hg (by decide) (by decide) he hpl
end
end SN
end TQST

section TQSV
set_option Elab.async false
set_option linter.all false
set_option maxRecDepth 100000
set_option maxHeartbeats 4000017
/-! QSV: Solid's __bool__, __contains__, volume, boxes; added, taken. -/
namespace SN
open PySem PySem.Spec PyProof.Rows L2 NdefX
section
variable {prog : Program} {w : World} {κ : Type} [DecidableEq κ] {knd : HeapKind prog w κ} {A : Around} {E : Value → Shared → Prop} {s : Shared}
theorem truthy_dictH {d : Addr} {kvs : List (κ × Addr × Value)} {Q : Bool → Shared → Prop} (hd : (d == sysModules) = false) (hm : s.heap.DictOfH knd d kvs) (hfit : (kvs.length : Int) < 2 ^ 63)
    (h : Q (!kvs.isEmpty) { s with toks := s.toks + 1 + 1 }) : wpAny (model prog w) A (truthy (.ref d)) Q E s := by
  have hne : ((kvs.length : Int) != 0) = !kvs.isEmpty := by cases kvs <;> simp <;> omega
  have key : wpAny (model prog w) A (runValue (.builtin "len" ⟨[.ref d], []⟩)) (fun r s' => r = .int kvs.length (s.toks + 1) ∧ Q (!kvs.isEmpty) s') E s := by
    refine wpAny_runValue (codeAny_builtin entry_len ?_)
    rw [Around.under_plainId plain_len _]
    exact wpAny_mono (wpAny_len_body_dictH (Q := fun r s' => r = .int kvs.length (s.toks + 1) ∧ Q (!kvs.isEmpty) s') hd hm hfit ⟨rfl, h⟩)
      (fun fin s' h' => by obtain ⟨r, rfl, hq⟩ := h'; exact hq) fun _ _ e => e
  have hT : s.TypeIs (.ref d) "dict" := by obtain ⟨o, es, ep, h1, h2, _⟩ := hm; exact ⟨o, h1, h2.1⟩
  unfold truthy
  first
    | refine wpAny_bind (wpAny_callSpecial?_none (name := Str.ofString "__bool__") hT noBool_dict ?_)
    | refine wpAny_bind (wpAny_pure (wpAny_bind (wpAny_callSpecial?_none (name := Str.ofString "__bool__") hT noBool_dict ?_)))
  first
    | refine wpAny_bind (wpAny_specialOf (name := Str.ofString "__len__") hT F.slot_dict_len.lookup ?_)
    | refine wpAny_bind (wpAny_pure (wpAny_bind (wpAny_specialOf (name := Str.ofString "__len__") hT F.slot_dict_len.lookup ?_)))
  first
    | exact wpAny_bind (wpAny_mono key (fun r s' h' => by obtain ⟨rfl, hq⟩ := h'; exact wpAny_pure (hne ▸ hq)) fun _ _ e => e)
    | exact wpAny_bind (wpAny_pure (wpAny_bind (wpAny_mono key (fun r s' h' => by obtain ⟨rfl, hq⟩ := h'; exact wpAny_pure (hne ▸ hq)) fun _ _ e => e)))
end
section
variable {X : Cx} {α β γ δ : Type} {σ : L2.St} {K H : Hp} {r : Rel α}
theorem cr_boolC {rr : Rel α} : CallR X (.type "bool") (fun vs H Q => ∃ K v l, vs = [v] ∧ Le K H ∧ (rDC rr).r K v l ∧ Q (.bl (!l.isEmpty)) H) := by
  intro pins s σ H vs us Q I r h
  obtain ⟨K, v, l, rfl, le, ⟨a, kvs, rfl, hd, hp⟩, q⟩ := h
  obtain rfl := Vals.ref1 r
  obtain ⟨z, lo, xs, kt, m⟩ := dt_rd I.hok (co_dT.mp (le a _ hd))
  have zk : kvs.length = xs.length := Paired.length kt
  have zl : kvs.length = l.length := Paired.length hp
  have e : l.isEmpty = xs.isEmpty := by
    have zz : l.length = xs.length := zl.symm.trans zk
    cases l <;> cases xs <;> first | rfl | (simp at zz; done)
  rw [e] at q
  exact call_bool_ins (truthy_dictH lo m (by rw [← zk]; rw [sizeLine_eq] at z; omega) ⟨.bl (!xs.isEmpty), H, I.tok _, rfl, q⟩)
theorem ev_boolC {e : Expr} {p pos : Pos} {l : List (Cell × α)} {rr : Rel α} (hm : X.mg "bool" = none) (h : EV X e σ K (rDC rr) l) (hg : Gl X "bool" := by rfl) (he : starEach [e] X.env = (false, eval e X.env) :: starEach [] X.env := by rfl) (hpl : (backTo pos (starEach [] X.env)).any (·.1) = false := by rfl) :
    EV X (.Call (.Name "bool" p) [e] [] pos) σ K rBl (!l.isEmpty) :=
  ev_callTy (cr_boolC (rr := rr)) hm (by decide +kernel) (ea_1 h he) (fun vs K1 H1 Q _ le ⟨v, _, e1, hv, e3⟩ q => by
    subst e3; subst e1
    exact ⟨K1, v, l, rfl, le, hv, q _ K1 H1 (.refl le) rfl⟩) hg (by decide) (by decide) he hpl
theorem ev_box {e f : Expr} {pos : Pos} {k : Nat} {x y : Cell} (h1 : EV X e σ K rCell x) (h2 : EV X f σ K rCell y)
    (hs : starEach [e, f] X.env = (false, eval e X.env) :: starEach [f] X.env := by rfl) (hs2 : starEach [f] X.env = (false, eval f X.env) :: starEach [] X.env := by rfl) : EV X (.Tuple [e, f] k pos) σ K rBox (x, y) :=
  ev_tup (ea_cons h1 (ea_1 h2 hs2) (mo_cons mo_nil) hs) fun vs H' p l ⟨v, _, e1, hv, w, _, e2, hw, e3⟩ => by
    subst e3; subst e2; subst e1
    exact ⟨sz3 (by simp), fun hp => ⟨p, v, w, rfl, co_tup.mpr upd_same, rCell.mono (le_new' hp) hv, rCell.mono (le_new' hp) hw⟩⟩
/-- e.f, a property, by data -/
theorem ev_prop {C p g : Addr} {f : Str} {e : Expr} {pos : Pos} {k : Nat} {pre : α → Prop} {fn : α → δ} {rr : Rel δ} {a : α} (c : Cls X.K C) (hp : PropOf X.K C f p g) (F : FnR X.prog X.w X.K X.mg X.base (L2.CX X.prog X.w) k g (sp1 r rr pre fn)) (hr : Room (k + 1) X.A) (i1 : InsR C "zz" r) (h : EV X e σ K r a) (hpre : pre a)
    (hab : attributeBase e f X.env (eval e X.env) = eval e X.env := by rfl) : EV X (.Attribute e f pos) σ K rr (fn a) := fun H l Q q pins s I =>
  attr_of hab (thn (h H l (fun v H1 => ∃ K1, Nxt K H K1 H1 ∧ r.r K1 v a) (fun v K1 H1 n hv => ⟨K1, n, hv⟩) pins s I) fun u s1 ⟨x, H1, I1, rx, K1, n1, hx⟩ => by
    obtain ⟨q0, dx, fs, rfl, g1, _⟩ := i1 K1 x a hx
    cases rx
    obtain ⟨mA, O, _, _, _, _⟩ := ins_get I1.hok (co_ins.mp (n1.in_ q0 _ g1))
    obtain ⟨od, J, _⟩ := O.look
    obtain ⟨rest, hrec⟩ := hp.rec_
    have I2 := I1.tok (s1.toks + 1)
    have hc : (PySem.W.clsIn X.K C).isSome = true := by
      obtain ⟨cd, hc, _⟩ := PySem.W.any_some c.hd
      rw [hc]
      rfl
    refine PySem.W.get_bind I1.kIn J (PySem.W.plainGet_of (c.get f)).1 (PySem.W.findObj_data hc hp.at_ hp.get hp.tak) (PySem.W.plainGet_of (c.get f)).2 (wpAny_call (PySem.W.prop_get (s := { s1 with toks := s1.toks + 1 }) I1.kIn hrec ?_))
    refine codeAny_mono (F X.A.in1 X.stack { s1 with toks := s1.toks + 1 } H1 [.ref q0] [.ref q0] Q E0' hr.in1 I2.env0.in1 (.cons rfl .nil) ⟨K1, .ref q0, a, rfl, n1.in_, hx, hpre, fun w K' H' n hw => q w K' H' (n1.trans n) hw⟩) fun r s' hq => ?_
    cases r with
    | error er =>
      obtain ⟨_, _, _, _, _, _, _, _, _, _, _, _, z⟩ := hq
      exact z.elim
    | ok fl =>
      cases fl with
      | ret u =>
        obtain ⟨v, H', I3, rv, q3⟩ := I2.after hq
        show wpAny _ _ (handedOut u) _ _ _
        rw [PySem.W.handedOut_of (handed_of rv)]
        exact wpAny_pure ⟨v, H', I3, rv, q3⟩
      | next => exact False.elim hq
      | brk => exact False.elim hq
      | cont => exact False.elim hq)
end
/-! ### the methods -/
def ixC (ls : Lines) (p : Cell) : Cell := (ixAt (ls.getD 0 []) p.1, ixAt (ls.getD 1 []) p.2.1, ixAt (ls.getD 2 []) p.2.2)
def IxOk (l : List Int) (x : Int) : Prop := l.length ≤ 1000 ∧ 0 ≤ ixAt l x ∧ ixAt l x < l.length - 1
structure HasOk (s : Sol) (c : Cell) : Prop where
  l3 : s.1.length = 3
  o0 : IxOk (s.1.getD 0 []) c.1
  o1 : IxOk (s.1.getD 1 []) c.2.1
  o2 : IxOk (s.1.getD 2 []) c.2.2
def hasF (s : Sol) (c : Cell) : Bool := (dget s.2 (ixC s.1 c)).isSome
def prodC (c : Cell) : Int := c.1 * c.2.1 * c.2.2
def volOne (ls : Lines) (c : Cell) : Int := prodC (szF ls c)
def volF (s : Sol) : Int := ((keyL s.2).map (volOne s.1)).sum
structure VolOk (s : Sol) : Prop where
  z : s.2.length ≤ sz
  low : ∀ c ∈ keyL s.2, LowOk s.1 c
  mul : ∀ c ∈ keyL s.2, CMul (szF s.1 c).1 (szF s.1 c).2.1 ∧ CMul ((szF s.1 c).1 * (szF s.1 c).2.1) (szF s.1 c).2.2
def boxOne (ls : Lines) (c : Cell) : Box := (lowF ls c, highF ls c)
def boxesF (s : Sol) : List Box := (sortK ltC (keyL s.2)).map (boxOne s.1)
structure BxOk (s : Sol) : Prop where
  z : s.2.length ≤ sz
  low : ∀ c ∈ keyL s.2, LowOk s.1 c
abbrev stBool : Stmt := mth 49 2
abbrev stHas : Stmt := mth 49 3
abbrev stVol : Stmt := mth 49 8
abbrev stBoxes : Stmt := mth 49 12
section
variable {P : Program} {w : World} {F : PySem.W.Frag} {mg : Str → Option Value} {base : Heap} {CS CG CM CT : Addr}
abbrev spBool (F : PySem.W.Frag) (CG : Addr) : Sp := sp1 (rSol F CG) rBl (fun _ => True) fun s => !s.2.isEmpty
theorem fr_bool {f : Addr} (B : TB mg) (c : ClsOk F CG) (G : FnAt F f "__bool__" "Solid.__bool__" stBool ["self"]) : FnR P w F mg base (L2.CX P w) 1 f (spBool F CG) := by
  have S : FnScope ["self"] ["self"] (defScope stBool) := ⟨rfl, rfl, rfl, by decide +kernel, rfl, by decide +kernel, by decide +kernel⟩
  refine fr_fn (N := ["self"]) G S (fun vs H Q E ⟨K, v, a, e, _⟩ => by rw [e]; rfl) ?_
  rintro X _ H Q E cdv A outer s rfl hr ⟨K, v, sA, rfl, le, h1, _, q⟩
  exact ss_one (s_ret le (ev_boolC (l := sA.2) B.bool (ev_gc (s := sA) c (ev_name 0 rfl h1))) fun v K' H' n hv => q v K' H' n hv)
abbrev spHas (F : PySem.W.Frag) (CG : Addr) : Sp := sp2 (rSol F CG) rCell rBl HasOk hasF
abbrev spIx (F : PySem.W.Frag) : Sp := sp2 (rTupL F rInt) rInt rInt (fun ls x => ls.length ≤ 1000 ∧ 0 ≤ ixAt ls x ∧ ixAt ls x < ls.length - 1) ixAt
abbrev NHs : List Str := ["self", "cell", "own", "at"]
theorem fr_has {f : Addr} (T : TX w F mg) (c : ClsOk F CG) (D1 : Df P w F mg base 2 "is_point" spIsPoint) (D2 : Df P w F mg base 1 "index_of" (spIx F)) (G : FnAt F f "__contains__" "Solid.__contains__" stHas ["self", "cell"]) : FnR P w F mg base (L2.CX P w) 3 f (spHas F CG) := by
  have S : FnScope NHs ["self", "cell"] (defScope stHas) := ⟨rfl, rfl, rfl, by decide +kernel, rfl, by decide +kernel, by decide +kernel⟩
  refine fr_fn (N := NHs) G S (fun vs H Q E ⟨K, v, a, u, b, e, _⟩ => by rw [e]; rfl) ?_
  rintro X _ H Q E cdv A outer s rfl hr ⟨K, vA, sA, vc, cc, rfl, le, h1, h2, ok, q⟩
  have hu := hu_of hr
  refine ss_cons (s_if (b := false) le (et_not (b := true) (et_val (ev_call1 (f := fun _ => true) (a := cc) D1 hr (ev_name 1 rfl h2) trivial))) (fun e => Bool.noConfusion e) fun _ H1 s1 l1 => ?_)
  refine ss_nil ?_
  refine ss_one (s_ret (r := rBl) (a := hasF sA cc) l1 (ev_inC (c := ixC sA.1 cc) hu (ev_tupleC T.bTuple (ev_cd ?_)) (ev_gc (s := sA) c (ev_name 0 rfl h1))) fun v K' H' n hv => q v K' H' ((Nxt.same1 le s1).trans n) hv)
  obtain ⟨ls, cs⟩ := sA
  obtain ⟨l3, o0, o1, o2⟩ := ok
  match ls, l3 with
  | [l0, l1, l2], _ =>
    show CD _ _ _ _ _ _ (([l0, l1, l2].zip (trip cc)).map fun z => ixAt z.1 z.2)
    refine cd_l1t (g := gt2 F 2 3) (own := [("own", 2), ("at", 3)]) (xs := [l0, l1, l2].zip (trip cc)) (f := fun z => ixAt z.1 z.2) (rr := rInt) rfl S.nd (es_zipT T.bZip (ev_gl (s := ([l0, l1, l2], cs)) c (ev_name 0 rfl h1)) (ev_cellL (ev_name 1 rfl h2))) (blkOk_by (N := NHs) (sc := defScope stHas) (by decide +kernel)) (fun _ _ _ _ _ => pg_n2 2 3 rfl S.nd rfl rfl (Or.inl rfl) (Or.inl rfl) (Or.inr rfl) (Or.inr rfl)) (by simp [sz, trip]) ?_
    rintro i ⟨x, y⟩ K2 z ea le2 ⟨p, v1, v2, rfl, hp, hx, hy⟩
    refine ⟨_, gd_tup2 hp gd_name gd_name, (wipe_set (by decide)).trans (wipe_t (by decide)), fun s H0 C cl fp => ?_⟩
    have hm := List.mem_of_getElem? ea
    have : IxOk x y := by
      have e : ([l0, l1, l2].zip (trip cc)) = [(l0, cc.1), (l1, cc.2.1), (l2, cc.2.2)] := rfl
      rw [e] at hm
      simp only [List.mem_cons, List.not_mem_nil, or_false, Prod.mk.injEq] at hm
      rcases hm with ⟨rfl, rfl⟩ | ⟨rfl, rfl⟩ | ⟨rfl, rfl⟩
      · exact o0
      · exact o1
      · exact o2
    exact ev_call2 (a := x) (b := y) D2 (hr.mono (by decide)) (ev_name 2 rfl hx) (ev_name 3 rfl hy) this
abbrev spVol (F : PySem.W.Frag) (CG : Addr) : Sp := sp1 (rSol F CG) rInt VolOk volF
abbrev spProd : Sp := sp1 rCell rInt (fun c => CMul c.1 c.2.1 ∧ CMul (c.1 * c.2.1) c.2.2) fun c => c.1 * c.2.1 * c.2.2
theorem fr_vol {f : Addr} (T : TX w F mg) (c : ClsOk F CG) (D1 : Df P w F mg base 2 "sizes" (spPoint F szF)) (D2 : Df P w F mg base 1 "product_of" spProd) (G : FnAt F f "volume" "Solid.volume" stVol ["self"]) : FnR P w F mg base (L2.CX P w) 3 f (spVol F CG) := by
  have S : FnScope ["self", "cell"] ["self"] (defScope stVol) := ⟨rfl, rfl, rfl, by decide +kernel, rfl, by decide +kernel, by decide +kernel⟩
  refine fr_fn (N := ["self", "cell"]) G S (fun vs H Q E ⟨K, v, a, e, _⟩ => by rw [e]; rfl) ?_
  rintro X _ H Q E cdv A outer s rfl hr ⟨K, v, sA, rfl, le, h1, ok, q⟩
  have hs := h1
  obtain ⟨p, dx, gl, gc, rfl, g1, g2, ⟨d, kvs, rfl, hd, hp⟩⟩ := hs
  refine ss_one (s_ret (r := rInt) (a := volF sA) le (ev_sum (bs := (keyL sA.2).map (volOne sA.1)) rfl T.bSum (ev_cdL (u := .dT kvs) (d := d) (.inr (.inl ⟨kvs, rfl⟩)) hd (cd_l1t (own := [("cell", 1)]) (xs := keyL sA.2) (f := volOne sA.1) (rr := rInt) (r := rCell) rfl S.nd (es_keysC (ev_fldG (ev_name (r := rVal) 0 rfl rfl) (fun K1 v lk e => ⟨p, CG, dx, _, .ref d, e, lk p _ g1, c.cl, c.nc, lkS gl (.ref d), rfl⟩)) ⟨d, kvs, rfl, hd, hp⟩) (blkOk_by (N := ["self", "cell"]) (sc := defScope stVol) (by decide +kernel)) (fun _ _ _ _ _ => pg_name (i := 1) S.nd rfl (Or.inl rfl)) ?_ ?_))) fun v K' H' n hv => q v K' H' n hv)
  · unfold keyL; rw [List.length_map]; exact ok.z
  · intro i cc K3 x ex l3 hx
    have hm := List.mem_of_getElem? ex
    exact ⟨_, gd_name, wipe_t (by decide), fun s H0 C cl fp => by exact ev_call1 (f := prodC) (a := szF sA.1 cc) D2 (hr.mono (by decide)) (ev_call2 (f := szF) (a := sA.1) (b := cc) D1 hr (ev_gl (s := sA) c (ev_name 0 rfl ((rSol F CG).mono l3 h1))) (ev_name 1 rfl hx) (ok.low cc hm)) (ok.mul cc hm)⟩
abbrev spBoxes (F : PySem.W.Frag) (CG : Addr) : Sp := sp1 (rSol F CG) (rLst F rBox) BxOk boxesF
abbrev NBxs : List Str := ["self", "lines", "cell"]
theorem mem_sortC {l : List Cell} {c : Cell} : c ∈ sortK ltC l ↔ c ∈ l := (sortK_perm l).mem_iff
theorem fr_boxes {f : Addr} (T : TX w F mg) (c : ClsOk F CG) (D1 : Df P w F mg base 1 "low_point" (spPoint F lowF)) (D2 : Df P w F mg base 1 "high_point" (spPoint F highF)) (G : FnAt F f "boxes" "Solid.boxes" stBoxes ["self"]) : FnR P w F mg base (L2.CX P w) 2 f (spBoxes F CG) := by
  have S : FnScope NBxs ["self"] (defScope stBoxes) := ⟨rfl, rfl, rfl, by decide +kernel, rfl, by decide +kernel, by decide +kernel⟩
  refine fr_fn (N := NBxs) G S (fun vs H Q E ⟨K, v, a, e, _⟩ => by rw [e]; rfl) ?_
  rintro X _ H Q E cdv A outer s rfl hr ⟨K, v, sA, rfl, le, h1, ok, q⟩
  have hu32 : A.units + 3 + 32 < cLine := by have := hr.un; exact Nat.lt_of_le_of_lt (by show _ ≤ (A.units + 3) + 16 * 1 + 200; omega) this
  refine ss_cons (s_asg (i := 1) (r := rTupL F (rTupL F rInt)) (a := sA.1) S.nd rfl (Or.inr rfl) le (ev_gl (s := sA) c (ev_name 0 rfl h1)) fun v1 K1 H1 n1 hl => ?_)
  have h1' := (rSol F CG).mono n1.le h1
  refine ss_one (s_ret (r := rLst F rBox) (a := boxesF sA) n1.in_ (ev_cd (cd_l1t (own := [("cell", 2)]) (xs := sortK ltC (keyL sA.2)) (f := boxOne sA.1) (rr := rBox) (r := rCell) rfl S.nd (es_list (ev_sortC (l := sA.2) rfl hu32 T.bSorted (ev_gc (s := sA) c (ev_name 0 rfl h1')))) (blkOk_by (N := NBxs) (sc := defScope stBoxes) (by decide +kernel)) (fun _ _ _ _ _ => pg_name (i := 2) S.nd rfl (Or.inl rfl)) ?_ ?_)) fun v K' H' n hv => q v K' H' (n1.trans n) hv)
  · rw [(sortK_perm _).length_eq]; unfold keyL; rw [List.length_map]; exact ok.z
  · intro i cc K3 x ex l3 hx
    have hm := mem_sortC.mp (List.mem_of_getElem? ex)
    have hl3 := (rTupL F (rTupL F rInt)).mono l3 hl
    exact ⟨_, gd_name, wipe_t (by decide), fun s H0 C cl fp => by exact ev_box (ev_call2 (f := lowF) (a := sA.1) (b := cc) D1 hr (ev_name 1 rfl hl3) (ev_name 2 rfl hx) (ok.low cc hm)) (ev_call2 (f := highF) (a := sA.1) (b := cc) D2 hr (ev_name 1 rfl hl3) (ev_name 2 rfl hx) (ok.low cc hm))⟩
/-! ### added, taken -/
structure SubF (F : PySem.W.Frag) (CG f : Addr) : Prop where
  first : PySem.W.selfFirst F CG = true
  at_ : PySem.W.findIn F (.ref CG) "__sub__" = some (some (.ref f))
  fn : PySem.W.isFn F (.ref f) = true
  g : FnAt F f "__sub__" "Solid.__sub__" stSub ["self", "other"]
abbrev stAdded : Stmt := top 52
abbrev stTaken : Stmt := top 53
structure DifOk (M N : Mkd) : Prop where
  a : TsOk M
  b : TsOk N
  s : SubOk (tsF M) (tsF N)
abbrev spAdded (P : Program) (w : World) (F : PySem.W.Frag) (CM CG CT : Addr) : Sp := sp2E CT (rMk P w F CM) (rMk P w F CM) (rSol F CG) (fun M N => DifOk N M) (fun M N => subOk (tsF N) (tsF M)) fun M N => subF (tsF N) (tsF M)
abbrev spTaken (P : Program) (w : World) (F : PySem.W.Frag) (CM CG CT : Addr) : Sp := sp2E CT (rMk P w F CM) (rMk P w F CM) (rSol F CG) DifOk (fun M N => subOk (tsF M) (tsF N)) fun M N => subF (tsF M) (tsF N)
theorem df_added (T : TX w F mg) (Cs : CsOk P w F mg CS CG CM CT) (Ds : DsOk P w F mg base CT) (Db : DbO P w F mg base CG) (Ts : MtF F CM "to_solid" "Marked.to_solid" (mth 56 2) ["self"]) (Sb : ∃ f, SubF F CG f) (G : FnF F mg "added" stAdded ["one", "other"]) : Df P w F mg base 9 "added" (spAdded P w F CM CG CT) := by
  have S : FnScope ["one", "other"] ["one", "other"] (defScope stAdded) := ⟨rfl, rfl, rfl, by decide +kernel, rfl, by decide +kernel, by decide +kernel⟩
  refine df_fn (N := ["one", "other"]) G S (fun vs H Q E ⟨K, v, a, u, b, e, _⟩ => by rw [e]; rfl) ?_
  rintro X _ H Q E f cdv A outer s rfl hr ⟨K, v1, M, v2, N, rfl, le, h1, h2, ok, qt, qf⟩
  obtain ⟨ft, mt, gt⟩ := Ts
  obtain ⟨fs, B⟩ := Sb
  have Ft := fr_ts T Cs Ds gt
  exact ss_one (s_retE (CT := CT) (E := E) (ok := subOk (tsF N) (tsF M)) (r := rSol F CG) (a := subF (tsF N) (tsF M)) le (ev_binE (X := cxD P w F mg base ["one", "other"] "added" stAdded f cdv A outer s H E) (C := CG) (pre := SubOk) (okf := subOk) (fn := subF) (a := tsF N) (b := tsF M) B.first B.at_ B.fn (fr_sub T Cs Ds Db B.g) hr (passE []) insR_sol insR_sol (ev_m1 (b := N) (fn := tsF) Cs.mkd.cl insR_mk mt Ft hr (ev_name 1 rfl h2) ok.a) (ev_m1 (b := M) (fn := tsF) Cs.mkd.cl insR_mk mt Ft hr (ev_name 0 rfl h1) ok.b) ok.s) (fun ek v K' H' n hv => qt ek v K' H' n hv) fun ek => qf ek)
theorem df_taken (T : TX w F mg) (Cs : CsOk P w F mg CS CG CM CT) (Ds : DsOk P w F mg base CT) (Db : DbO P w F mg base CG) (Ts : MtF F CM "to_solid" "Marked.to_solid" (mth 56 2) ["self"]) (Sb : ∃ f, SubF F CG f) (G : FnF F mg "taken" stTaken ["one", "other"]) : Df P w F mg base 9 "taken" (spTaken P w F CM CG CT) := by
  have S : FnScope ["one", "other"] ["one", "other"] (defScope stTaken) := ⟨rfl, rfl, rfl, by decide +kernel, rfl, by decide +kernel, by decide +kernel⟩
  refine df_fn (N := ["one", "other"]) G S (fun vs H Q E ⟨K, v, a, u, b, e, _⟩ => by rw [e]; rfl) ?_
  rintro X _ H Q E f cdv A outer s rfl hr ⟨K, v1, M, v2, N, rfl, le, h1, h2, ok, qt, qf⟩
  obtain ⟨ft, mt, gt⟩ := Ts
  obtain ⟨fs, B⟩ := Sb
  have Ft := fr_ts T Cs Ds gt
  exact ss_one (s_retE (CT := CT) (E := E) (ok := subOk (tsF M) (tsF N)) (r := rSol F CG) (a := subF (tsF M) (tsF N)) le (ev_binE (X := cxD P w F mg base ["one", "other"] "taken" stTaken f cdv A outer s H E) (C := CG) (pre := SubOk) (okf := subOk) (fn := subF) (a := tsF M) (b := tsF N) B.first B.at_ B.fn (fr_sub T Cs Ds Db B.g) hr (passE []) insR_sol insR_sol (ev_m1 (b := M) (fn := tsF) Cs.mkd.cl insR_mk mt Ft hr (ev_name 0 rfl h1) ok.a) (ev_m1 (b := N) (fn := tsF) Cs.mkd.cl insR_mk mt Ft hr (ev_name 1 rfl h2) ok.b) ok.s) (fun ek v K' H' n hv => qt ek v K' H' n hv) fun ek => qf ek)
end
end SN
end TQSV

section TQEQ
set_option Elab.async false
set_option linter.all false
set_option maxRecDepth 100000
set_option maxHeartbeats 4000017
/-! QEQ: Solid.__eq__, != of solids. -/
namespace SN
open PySem PySem.Spec PyProof.Rows L2 NdefX
section
variable {prog : Program} {w : World} {κ : Type} [DecidableEq κ] {knd : HeapKind prog w κ} {A : Around} {E : Value → Shared → Prop} {s : Shared}
/-- two dicts with the same keys and equal values -/
theorem samePairsH {nm : String} {a b : Addr} {xs ys : List (κ × Addr × Value)} {Q : Bool → Shared → Prop} (hu : knd.room A) (ha : (a == sysModules) = false) (hb : (b == sysModules) = false) (da : s.heap.DictOfH knd a xs) (db : s.heap.DictOfH knd b ys) (hl : xs.length = ys.length)
    (he : ∀ x ∈ xs, ∃ (j : Nat) (p : Addr × Value), ys[j]? = some (x.1, p) ∧ PySem.SeqAt.EqIn prog w A s x.2.2 p.2 true) (h : Q true s) : wpAny (model prog w) A (Builtin.Dict.samePairs nm a b) Q E s := by
  obtain ⟨oa, es, ep, hoa, _, hda, ena, alla, nda⟩ := da
  obtain ⟨ob, es', ep', hob, _, hdb, enb, allb, ndb⟩ := db
  have hla : es.size = xs.length := by have := congrArg List.length ena; simpa using this
  have hlb : es'.size = ys.length := by have := congrArg List.length enb; simpa using this
  unfold Builtin.Dict.samePairs Builtin.Dict.showsAll
  rw [if_neg (show ¬ (a == sysModules) = true by rw [ha]; exact Bool.false_ne_true), if_neg (show ¬ (b == sysModules) = true by rw [hb]; exact Bool.false_ne_true)]
  refine wpAny_bind (wpAny_pure (wpAny_bind (wpAny_pure ?_)))
  refine wpAny_bind (wpAny_dictEntries hoa hda ?_)
  dsimp only
  refine wpAny_bind (wpAny_dictEntries hob hdb ?_)
  rw [if_neg (by rw [hla, hlb, hl]; simp)]
  refine wpAny_bind (wpAny_dictEpoch hoa hda ?_)
  refine wpAny_bind ?_
  rw [Std.Legacy.Range.forIn_eq_forIn_range']
  simp only [Std.Legacy.Range.size, Nat.sub_zero, Nat.add_sub_cancel, Nat.div_one]
  refine wpAny_forIn_list _
    (fun rest q s' => s' = s ∧ q = (none, ()) ∧ ∃ i, rest = List.range' i (es.size - i) ∧ i ≤ es.size)
    _ ?_ ?_ _ _ ⟨rfl, rfl, 0, by simp, Nat.zero_le _⟩
  · rintro x rest q s' ⟨rfl, rfl, i, hr, hi⟩
    have hlt : i < es.size := by
      rcases Nat.lt_or_ge i es.size with h | h
      · exact h
      · rw [Nat.sub_eq_zero_of_le h] at hr; simp at hr
    obtain ⟨rfl, hrest⟩ : x = i ∧ rest = List.range' (i + 1) (es.size - (i + 1)) := by
      have e : es.size - i = (es.size - (i + 1)) + 1 := by omega
      rw [e, List.range'_succ] at hr
      injection hr with h1 h2
      exact ⟨h1, h2⟩
    refine wpAny_bind (wpAny_dictEntries hoa hda ?_)
    rw [Array.getElem?_eq_getElem hlt]
    have hx : x < xs.length := by omega
    have ee : es[x] = entryOfKey knd xs[x] := by
      have h1 := entry_at ena x
      rw [Array.getElem?_eq_getElem hlt, List.getElem?_eq_getElem hx] at h1
      exact Option.some.inj h1
    have hm : xs[x] ∈ xs := List.getElem_mem hx
    obtain ⟨j, p, hj, hE⟩ := he _ hm
    rw [ee]
    refine wpAny_bind (wpAny_holding (wpAny_bind (wpAny_dictFind_heap hu (alla _ hm) hob hdb enb allb ndb (fun hn => absurd hj (hn j p)) fun j' p' hj' => ?_)))
    have jj : j' = j ∧ p' = p := by
      have h1 : (ys.map (·.1))[j']? = some xs[x].1 := by rw [List.getElem?_map, hj']; rfl
      have h2 : (ys.map (·.1))[j]? = some xs[x].1 := by rw [List.getElem?_map, hj]; rfl
      have l1 : j' < (ys.map (·.1)).length := (List.getElem?_eq_some_iff.mp h1).1
      have e := (List.getElem?_inj l1 ndb).mp (h1.trans h2.symm)
      subst e
      rw [hj] at hj'
      exact ⟨rfl, by have := Option.some.inj hj'; exact (Prod.mk.inj this).2.symm⟩
    obtain ⟨rfl, rfl⟩ := jj
    have hjl : j' < es'.size := by rw [hlb]; exact (List.getElem?_eq_some_iff.mp hj).1
    have e2 : es'[j'] = entryOfKey knd (xs[x].1, p') := by
      have h1 := entry_at enb j'
      rw [Array.getElem?_eq_getElem hjl, hj] at h1
      exact Option.some.inj h1
    refine wpAny_bind (wpAny_dictEntries hob hdb ?_)
    rw [Array.getElem?_eq_getElem hjl, e2]
    refine wpAny_holding (hE _ _ ?_)
    show wpAny _ _ (if (!true) = true then _ else _) _ _ _
    rw [if_neg (by decide)]
    refine wpAny_bind (wpAny_dictEpoch hoa hda ?_)
    rw [if_neg (by simp)]
    exact wpAny_pure ⟨rfl, rfl, x + 1, hrest, hlt⟩
  · rintro q s' ⟨rfl, rfl, i, hr, hi⟩
    exact wpAny_pure h
theorem rc_dictH {a b : Addr} {xs ys : List (κ × Addr × Value)} {Q : Value → Shared → Prop} (hu : A.units < cLine) (hk : knd.room A.in1) (ha : (a == sysModules) = false) (hb : (b == sysModules) = false) (da : s.heap.DictOfH knd a xs) (db : s.heap.DictOfH knd b ys) (hl : xs.length = ys.length)
    (he : ∀ x ∈ xs, ∃ (j : Nat) (p : Addr × Value), ys[j]? = some (x.1, p) ∧ PySem.SeqAt.EqIn prog w A.in1 s x.2.2 p.2 true) (h : Q (.bool true) s) : wpAny (model prog w) A (richCompare .Eq (.ref a) (.ref b)) Q E s := by
  have ta : s.TypeIs (.ref a) "dict" := by obtain ⟨o, es, ep, h1, h2, _⟩ := da; exact ⟨o, h1, h2.1⟩
  have tb : s.TypeIs (.ref b) "dict" := by obtain ⟨o, es, ep, h1, h2, _⟩ := db; exact ⟨o, h1, h2.1⟩
  refine wpAny_richCompare_same_room (op := .Eq) ta tb PySem.F.slot_dict_eq (wpAny_call_entry PySem.F.slot_dict_eq ta PySem.F.entry_dict_eq ?_ (PySem.F.args_dict_eq_2 _ _)) hu
  show wpAny _ _ (Builtin.Dict.dictSlotArgs "__eq__" ⟨[.ref a, .ref b], []⟩ >>= _) _ _ s
  refine wpAny_bind ?_
  unfold Builtin.Dict.dictSlotArgs
  refine wpAny_bind (wpAny_notOrdered_dict ta ?_)
  show wpAny _ _ (pure (Value.ref a, Value.ref b)) _ _ s
  refine wpAny_pure ?_
  refine wpAny_bind (wpAny_isInstance (T := "dict") tb PySem.F.sub_dict_dict ?_)
  simp only [Bool.not_true, Bool.false_eq_true, if_false]
  refine wpAny_bind (wpAny_pure (wpAny_bind (wpAny_pure ?_)))
  refine wpAny_bind (samePairsH hk ha hb da db hl he ?_)
  refine wpAny_pure ⟨_, rfl, ?_, ?_⟩
  · exact fun x => nomatch x
  · exact h
end
/-! ### what is related to the same data is equal -/
def SameEq (F : PySem.W.Frag) (n : Nat) {α : Type} (r : Rel α) : Prop := ∀ (X : Cx) (pins : List (Addr × Obj)) (σ : L2.St) (H K : Hp) (s : Shared) (v1 v2 : V) (u1 u2 : Value) (a : α), X.K = F → Inv X pins σ H s → Le K H → r.r K v1 a → r.r K v2 a → RelV v1 u1 → RelV v2 u2 → ∀ A : Around, A.units + n < cLine → PySem.SeqAt.EqIn X.prog X.w A s u1 u2 true
theorem same_int {F : PySem.W.Frag} : SameEq F 0 rInt := fun X pins σ H K s v1 v2 u1 u2 a _ I l h1 h2 r1 r2 A hA => by
  obtain rfl : v1 = .int a := h1
  obtain rfl : v2 = .int a := h2
  obtain ⟨t1, rfl⟩ := r1
  obtain ⟨t2, rfl⟩ := r2
  have := PySem.SeqAt.EqAt.int_int (A := A) (s := s) a t1 a t2
  rw [beq_self_eq_true] at this
  exact this.inModel X.prog X.w
theorem same_tup {F : PySem.W.Frag} {n : Nat} {α : Type} {r : Rel α} (h : SameEq F n r) : SameEq F (n + 1) (rTupL F r) := fun X pins σ H K s v1 v2 u1 u2 a eF I l ⟨p1, vs1, e1, h1, q1⟩ ⟨p2, vs2, e2, h2, q2⟩ r1 r2 A hA => by
  subst eF; subst e1; subst e2
  cases r1
  cases r2
  by_cases e : p1 = p2
  · subst e
    exact (PySem.SeqAt.EqAt.same _).inModel X.prog X.w
  obtain ⟨its1, w1, g1, _⟩ := I.tuple (le_T l h1)
  obtain ⟨its2, w2, g2, _⟩ := I.tuple (le_T l h2)
  have z1 : its1.length = a.length := by rw [← w1.length, q1.length]
  have z2 : its2.length = a.length := by rw [← w2.length, q2.length]
  refine PySem.SeqAt.EqIn.of_refs e fun E Q hq => PySem.SeqAt.rcIn_tuples (e := fun _ => true) g1 g2 (by omega) (fun j j1 j2 => ?_) ?_
  · have k1 : j < its1.length := by simpa using j1
    have k2 : j < its2.length := by simpa using j2
    have ka : j < a.length := by omega
    obtain ⟨x1, y1, y2⟩ := paired_get q1 (List.getElem?_eq_getElem ka)
    obtain ⟨x2, y3, y4⟩ := paired_get q2 (List.getElem?_eq_getElem ka)
    obtain ⟨u1, m1, m2⟩ := w1.get y1
    obtain ⟨u2, m3, m4⟩ := w2.get y3
    have b1 : its1.toArray[j] = u1 := by
      rw [List.getElem?_eq_getElem k1] at m1
      simpa using Option.some.inj m1
    have b2 : its2.toArray[j] = u2 := by
      rw [List.getElem?_eq_getElem k2] at m3
      simpa using Option.some.inj m3
    rw [b1, b2]
    exact h X pins σ H K s x1 x2 u1 u2 _ rfl I l y2 y4 m2 m4 A.in1 (by show A.units + 1 + n < cLine; omega)
  · have : ((List.range (min its1.toArray.size its2.toArray.size)).all (fun _ => true) && its1.toArray.size == its2.toArray.size) = true := by
      rw [Bool.and_eq_true]
      exact ⟨List.all_eq_true.mpr fun _ _ => rfl, by simp [z1, z2]⟩
    rw [this]; exact hq
/-- dicts of cells with the same keys, all True -/
structure SameC (l m : Cells) : Prop where
  len : l.length = m.length
  sub : ∀ x ∈ l, ∃ j : Nat, m[j]? = some x
theorem eq_cells {X : Cx} {pins : List (Addr × Obj)} {σ : L2.St} {H K : Hp} {s : Shared} {v1 v2 : V} {u1 u2 : Value} {l m : Cells} (I : Inv X pins σ H s) (le : Le K H) (h1 : (rDC rBl).r K v1 l) (h2 : (rDC rBl).r K v2 m) (r1 : RelV v1 u1) (r2 : RelV v2 u2) (sm : SameC l m) (A : Around) (hA : A.units + 2 < cLine) : PySem.SeqAt.EqIn X.prog X.w A s u1 u2 true := by
  obtain ⟨p1, k1, rfl, d1, q1⟩ := h1
  obtain ⟨p2, k2, rfl, d2, q2⟩ := h2
  cases r1
  cases r2
  by_cases e : p1 = p2
  · subst e
    exact (PySem.SeqAt.EqAt.same _).inModel X.prog X.w
  obtain ⟨z1, lo1, xs, kt1, m1⟩ := dt_rd I.hok (co_dT.mp (le p1 _ d1))
  obtain ⟨z2, lo2, ys, kt2, m2⟩ := dt_rd I.hok (co_dT.mp (le p2 _ d2))
  have a1 : k1.length = xs.length := Paired.length kt1
  have a2 : k2.length = ys.length := Paired.length kt2
  have a3 : k1.length = l.length := Paired.length q1
  have a4 : k2.length = m.length := Paired.length q2
  refine PySem.SeqAt.EqIn.of_refs e fun E Q hq => rc_dictH (by omega) (show A.units + 1 < cLine by omega) lo1 lo2 m1 m2 (by have := sm.len; omega) (fun x hx => ?_) hq
  obtain ⟨i, hi, ei⟩ := List.mem_iff_getElem.mp hx
  have gx : xs[i]? = some x := by rw [List.getElem?_eq_getElem hi, ei]
  obtain ⟨kv, b1, b2⟩ := paired_get kt1 gx
  obtain ⟨y, b3, b4⟩ := paired_get' q1 b1
  obtain ⟨j, hj⟩ := sm.sub y (List.mem_of_getElem? b3)
  obtain ⟨kv2, b5, b6⟩ := paired_get q2 hj
  obtain ⟨x2, b7, b8⟩ := paired_get' kt2 b5
  have ek : x2.1 = x.1 := by rw [← b8.1, b6.1, ← b4.1, b2.1]
  refine ⟨j, x2.2, by rw [b7, ← ek], ?_⟩
  have v1 : kv.2 = .bl y.2 := b4.2
  have v2 : kv2.2 = .bl y.2 := b6.2
  have w1 := b2.2.2
  have w2 := b8.2.2
  rw [v1] at w1
  rw [v2] at w2
  have w1 : x.2.2 = .bool y.2 := w1
  have w2 : x2.2.2 = .bool y.2 := w2
  rw [w1, w2]
  exact (PySem.SeqAt.EqAt.same _).inModel X.prog X.w
structure SameS (s t : Sol) : Prop where
  ls : s.1 = t.1
  cs : SameC s.2 t.2
section
variable {X : Cx} {σ : L2.St} {K H : Hp}
/-- (lines, cells) == (lines, cells), the same -/
theorem op_eqSol (hu : X.A.units + 16 < cLine) : OpR X (compareOp .Eq) (fun x y H Q => ∃ K ls l m, Le K H ∧ (rTup2 X.K (rTupL X.K (rTupL X.K rInt)) (rDC rBl)).r K x (ls, l) ∧ (rTup2 X.K (rTupL X.K (rTupL X.K rInt)) (rDC rBl)).r K y (ls, m) ∧ SameC l m ∧ Q (.bl true) H) := by
  rintro pins s σ H x y v u Q I rx ry ⟨K, ls, l, m, le, ⟨p1, x1, y1, rfl, h1, h2, h3⟩, ⟨p2, x2, y2, rfl, g1, g2, g3⟩, sm, q⟩
  cases rx
  cases ry
  obtain ⟨its1, w1, t1, _⟩ := I.tuple (le_T le h1)
  obtain ⟨its2, w2, t2, _⟩ := I.tuple (le_T le g1)
  obtain ⟨a1, b1, rfl, ra1, rb1⟩ := vals2 w1
  obtain ⟨a2, b2, rfl, ra2, rb2⟩ := vals2 w2
  refine PySem.SeqAt.rcIn_tuples (e := fun _ => true) t1 t2 (by omega) (fun j j1 j2 => ?_) ⟨.bl true, H, I, rfl, q⟩
  match j, j1 with
  | 0, _ => exact same_tup (same_tup same_int) X pins σ H K s _ _ _ _ ls rfl I le h2 g2 ra1 ra2 X.A.in1 (by show X.A.units + 1 + _ < cLine; omega)
  | 1, _ => exact eq_cells I le h3 g3 rb1 rb2 sm X.A.in1 (by show X.A.units + 1 + _ < cLine; omega)
end
section
variable {prog : Program} {w : World} {A : Around} {E : Value → Shared → Prop} {s : Shared} {F : PySem.W.Frag} {x y C L f : Addr} {h₀ : Heap} {m : Str → Option Value} {ox : Obj} {od : Option Obj}
theorem ifBoundB {M : Model} {id : String} {name : Str} {args : List Value} {Q : Option Value → Shared → Prop} (X : F.In s.heap) (I : PySem.W.InstAt s.heap x ox C od) (hs : PySem.W.findIn F (.ref C) name = some (some (.builtin id))) (hb : ∀ self, bindSpecial (.builtin id) self = pure (.builtin id, [self]))
    (h : wpAny M A (call (.builtin id) (.ref x :: args)) (fun v => Q (some v)) E s) : wpAny M A (callSpecialIfBound? (.ref x) name args) Q E s := by
  simp only [callSpecialIfBound?, bindSpecialIfBound?]
  refine wpAny_holding (wpAny_bind (wpAny_bind (wpAny_bind (I.type.here ((PySem.W.looks_findIn X hs).here ?_)))))
  refine wpAny_bind (wpAny_askSetting (wpAny_ite ?_))
  have fin : wpAny M A (call (.builtin id) ([.ref x] ++ args) >>= fun v => pure (some v)) Q E s := wpAny_bind (wpAny_mono h (fun v s' h' => wpAny_pure h') fun _ _ h' => h')
  split
  · exact wpAny_bind ((PySem.W.Looks.of_pure (hb _)).here (wpAny_pure (by exact fin)))
  · exact wpAny_tryCatch (wpAny_bind ((PySem.W.Looks.of_pure (hb _)).here (wpAny_pure (by exact fin))))
/-- != by an own __eq__ -/
theorem ne_K {Q : Value → Shared → Prop} (hu : A.units + 1 < cLine) (hF : PyProof.Rows.Fr h₀ L s.heap m) (X₀ : F.In h₀) (I : PySem.W.InstAt s.heap x ox C od)
    (hb : PySem.W.Looks (model prog w) s.heap (typeOf (.ref y)) (.ref C)) (hn : PySem.W.findIn F (.ref C) "__ne__" = some (some (.builtin "object.__ne__"))) (ho : PySem.W.subIn F (.ref C) (.type "object") = some true) (hs : PySem.W.findIn F (.ref C) "__eq__" = some (some (.ref f))) (hf : PySem.W.isFn F (.ref f) = true)
    (h : wpAny (model prog w) A.in1 (call (.ref f) [.ref x, .ref y]) (fun v s' => ∃ b, v = .bool b ∧ Q (.bool (!b)) s') E s) : wpAny (model prog w) A (richCompare .NotEq (.ref x) (.ref y)) Q E s := by
  have X := X₀.keeps hF.keep
  have body : wpAny (model prog w) A.in1 (Builtin.«object.__ne__» ⟨[.ref x, .ref y], []⟩) (fun fin s' => ∃ b, fin = .done (.ret (.bool (!b))) ∧ Q (.bool (!b)) s') E s := by
    unfold Builtin.«object.__ne__»
    refine wpAny_bind (m := slotArgs "__ne__" 1 _) (wpAny_pure ?_)
    refine wpAny_bind (wpAny_cRoomFor (by show A.units + 1 < cLine; omega) ?_)
    refine wpAny_bind (PySem.W.ifBound_K X I hs hf (wpAny_mono h (fun v s' hv => ?_) fun _ _ e => e))
    obtain ⟨b, rfl, q⟩ := hv
    exact wpAny_bind (wpAny_truthy_bool (wpAny_pure ⟨b, rfl, q⟩))
  have one : wpAny (model prog w) A (tryCompare (.ref x) "__ne__" (.ref y)) (fun r s' => ∃ b, r = some (.bool (!b)) ∧ Q (.bool (!b)) s') E s := by
    unfold tryCompare
    refine wpAny_bind (ifBoundB X I hn PySem.F.cmp_object.ne.bind (wpAny_call (codeAny_call_builtin PySem.F.cmp_object.ne.plain PySem.F.cmpEntry_ne (@PySem.W.check_slot (model prog w) _ _ s "object.__ne__" "object" "__ne__" (.ref x) [.ref y] [] _ PySem.F.cmpKind_ne PySem.F.cmpSplit_ne (I.type.andThen (PySem.W.looks_subIn X ho)) (PySem.F.cmpArgs_ne _ _) (wpAny_mono body (fun fin s' hq => ?_) fun _ _ e => e)))))
    obtain ⟨b, rfl, q⟩ := hq
    exact wpAny_pure ⟨b, rfl, q⟩
  unfold richCompare
  simp only [oneThing_ref]
  refine wpAny_holding (wpAny_bind (wpAny_cRoomFor (by omega) ?_))
  rw [cmpInfo_NotEq]
  dsimp only
  refine wpAny_bind (I.type.here (wpAny_bind (hb.here ?_)))
  rw [show (Value.ref C != Value.ref C) = false from by simp]
  simp only [Bool.false_eq_true, if_false]
  refine wpAny_bind (wpAny_pure ?_)
  simp only [Bool.false_eq_true, if_false]
  refine wpAny_bind (wpAny_mono one (fun r s' z => ?_) fun _ _ e => e)
  obtain ⟨b, rfl, hq⟩ := z
  exact wpAny_pure hq
end
structure EqF (F : PySem.W.Frag) (CG f : Addr) : Prop where
  ne : PySem.W.findIn F (.ref CG) "__ne__" = some (some (.builtin "object.__ne__"))
  sub : PySem.W.subIn F (.ref CG) (.type "object") = some true
  at_ : PySem.W.findIn F (.ref CG) "__eq__" = some (some (.ref f))
  fn : PySem.W.isFn F (.ref f) = true
structure IsF (F : PySem.W.Frag) (C C0 : Addr) : Prop where
  kit : PySem.W.kitOne F (.ref C) (.ref C0) = some true
  ha : PySem.W.findIn F (.ref C) "__class__" = some (some (.builtin "object.__class__"))
  hn : PySem.W.specialIn F (.builtin "object.__class__") "__get__" = some (some (.builtin "getset_descriptor.__get__"))
  htk : PySem.W.takesIn F (.builtin "object.__class__") = some true
  hm : PySem.W.mroIn F C (.type "object") = some true
section
variable {X : Cx} {α : Type} {σ : L2.St} {K H : Hp} {C : Addr} {r1 : Rel α} {a b : α}
theorem op_neI {k : Nat} {f : Addr} {pre : α → α → Prop} {fn : α → α → Bool} (B : EqF X.K C f) (F : FnR X.prog X.w X.K X.mg X.base (L2.CX X.prog X.w) k f (sp2 r1 r1 rBl pre fn)) (hr : Room (k + 1) X.A) :
    OpR X (compareOp .NotEq) (fun x y H Q => ∃ K p q dx fs dy gs a b, x = .ref p ∧ y = .ref q ∧ Le K H ∧ r1.r K (.ref p) a ∧ co K p = some (.ins C dx fs) ∧ r1.r K (.ref q) b ∧ co K q = some (.ins C dy gs) ∧ pre a b ∧ ∀ K' H', Nxt K H K' H' → Q (.bl (!fn a b)) H') := by
  rintro pins s σ H x y v u Q I rx ry ⟨K, p, q0, dx, fs, dy, gs, a, b, rfl, rfl, l, h1, g1, h2, g2, hp, q⟩
  cases rx
  cases ry
  obtain ⟨mA, J, _⟩ := ins_get I.hok (co_ins.mp (l p _ g1))
  obtain ⟨od, J, _⟩ := J.look
  obtain ⟨mB, J', _⟩ := ins_get I.hok (co_ins.mp (l q0 _ g2))
  obtain ⟨od', J', _⟩ := J'.look
  obtain ⟨m, hF⟩ := I.fr
  refine ne_K (by have := hr.units0; have := hr.in1.units0; show X.A.units + 1 < cLine; exact this) hF I.ok.mod.kin J J'.type B.ne B.sub B.at_ B.fn (wpAny_call (codeAny_mono (F X.A.in1 X.stack s H [.ref p, .ref q0] [.ref p, .ref q0] (fun v H' => ∃ K', v = .bl (fn a b) ∧ Nxt K H K' H') E0' hr.in1 I.env0.in1 (.cons rfl (.cons rfl .nil)) ⟨K, .ref p, a, .ref q0, b, rfl, l, h1, h2, hp, fun w K' H' n hw => ⟨K', hw, n⟩⟩) fun r s' hq => ?_))
  cases r with
  | error e =>
    obtain ⟨_, _, _, _, _, _, _, _, _, _, _, _, z⟩ := hq
    exact z.elim
  | ok fl =>
    cases fl with
    | ret u =>
      obtain ⟨v, H', I', rv, K', rfl, n⟩ := I.after hq
      cases rv
      exact ⟨fn a b, rfl, .bl (!fn a b), H', I', rfl, q K' H' n⟩
    | next => exact hq.elim
    | brk => exact hq.elim
    | cont => exact hq.elim
theorem et_neSol {e1 e2 : Expr} {pos : Pos} {k : Nat} {f : Addr} {pre : α → α → Prop} {fn : α → α → Bool} (B : EqF X.K C f) (F : FnR X.prog X.w X.K X.mg X.base (L2.CX X.prog X.w) k f (sp2 r1 r1 rBl pre fn)) (hr : Room (k + 1) X.A) (i1 : InsR C "zz" r1) (h1 : EV X e1 σ K r1 a) (h2 : EV X e2 σ K r1 b) (hp : pre a b) (hm : behindInMarks .NotEq e2 = false := by rfl) :
    ET X (.Compare e1 [.NotEq] [e2] pos) σ K (!fn a b) :=
  et_cmp (op_neI B F hr) hm h1 h2 fun K1 H1 u v Q _ l hu hv q => by
    obtain ⟨p, dx, fs, rfl, g1, _⟩ := i1 K1 u a hu
    obtain ⟨p2, dy, gs, rfl, g2, _⟩ := i1 K1 v b hv
    exact ⟨K1, p, p2, dx, fs, dy, gs, a, b, rfl, rfl, l, hu, g1, hv, g2, hp, fun K' H' n => q _ K' H' n rfl⟩
/-- isinstance(e, C0), C0 a class of the module -/
theorem ev_isC {x : Str} {C0 : Addr} {e : Expr} {pT p pos : Pos} {r : Rel α} (hm : X.mg "isinstance" = none) (hT : X.mg x = some (.ref C0)) (S : IsF X.K C C0) (i1 : InsR C "zz" r) (ci : Cls X.K C) (h : EV X e σ K r a)
    (hg : Gl X "isinstance" := by rfl) (hgT : Gl X x := by rfl) (hdT : (x == ("__debug__" : Str)) = false := by decide)
    (hs : starEach [e, .Name x pT] X.env = (false, eval e X.env) :: starEach [.Name x pT] X.env := by rfl) (hs2 : starEach [.Name x pT] X.env = (false, eval (.Name x pT) X.env) :: starEach [] X.env := by rfl) (hpl : (backTo pos (starEach [.Name x pT] X.env)).any (·.1) = false := by rfl) :
    EV X (.Call (.Name "isinstance" p) [e, .Name x pT] [] pos) σ K rBl true :=
  ev_callB call_isi hm (by decide +kernel) (ea_cons h (ea_1 (ev_glob (v := .ref C0) (r := rVal) (a := .ref C0) hT rfl rfl hgT hdT) hs2) (mo_cons mo_nil) hs) (fun vs K1 H1 Q l0 l ⟨v, _, e1, hv, w, _, e2, hw, e3⟩ q => by
    subst e3; subst e2; subst e1
    obtain rfl : w = .ref C0 := hw
    obtain ⟨p, dx, fs, rfl, g1, _⟩ := i1 K1 v a hv
    exact ⟨.ref p, .ref C0, .ref C, .ref C0, true, rfl, .own _, .base (.ins (co_ins.mp (l p _ g1)) ci S.ha S.hn S.htk S.hm), S.kit, q _ K1 H1 (.refl l) rfl⟩) hg (by decide) (by decide) hs hpl
end
abbrev stEq : Stmt := mth 49 1
section
variable {P : Program} {w : World} {F : PySem.W.Frag} {mg : Str → Option Value} {base : Heap} {CS CG CM CT : Addr}
abbrev spEqS (F : PySem.W.Frag) (CG : Addr) : Sp := sp2 (rSol F CG) (rSol F CG) rBl SameS fun _ _ => true
theorem fr_eqS {f : Addr} (B : TB mg) (c : ClsOk F CG) (hS : mg "Solid" = some (.ref CS)) (Is : IsF F CG CS) (G : FnAt F f "__eq__" "Solid.__eq__" stEq ["self", "other"]) : FnR P w F mg base (L2.CX P w) 1 f (spEqS F CG) := by
  have S : FnScope ["self", "other"] ["self", "other"] (defScope stEq) := ⟨rfl, rfl, rfl, by decide +kernel, rfl, by decide +kernel, by decide +kernel⟩
  refine fr_fn (N := ["self", "other"]) G S (fun vs H Q E ⟨K, v, a, u, b, e, _⟩ => by rw [e]; rfl) ?_
  rintro X _ H Q E cdv A outer s rfl hr ⟨K, vA, sA, vB, sB, rfl, le, h1, h2, ok, q⟩
  have hu16 : A.units + 3 + 16 < cLine := by have := hr.un; exact Nat.lt_of_le_of_lt (by show _ ≤ (A.units + 3) + 16 * 0 + 200; omega) this
  refine ss_one (s_ret (r := rBl) (a := true) le (ev_and (b := true) (c := true) (ev_isC (r := rSol F CG) (a := sB) B.isi hS Is insR_sol c.cl (ev_name 1 rfl h2)) fun _ => ev_one ?_) fun v K' H' n hv => q v K' H' n hv)
  refine ev_cmp (r1 := rTup2 F (rTupL F (rTupL F rInt)) (rDC rBl)) (r2 := rTup2 F (rTupL F (rTupL F rInt)) (rDC rBl)) (x := (sA.1, sA.2)) (y := (sB.1, sB.2)) (op_eqSol hu16) rfl (ev_tup2 (ev_gl (s := sA) c (ev_name 0 rfl h1)) (ev_gc (s := sA) c (ev_name 0 rfl h1))) (ev_tup2 (ev_gl (s := sB) c (ev_name 1 rfl h2)) (ev_gc (s := sB) c (ev_name 1 rfl h2))) fun K1 H1 u v Q _ l hu hv q => ?_
  rw [← ok.ls] at hv
  exact ⟨K1, sA.1, sA.2, sB.2, l, hu, hv, ok.cs, q _ K1 H1 (.refl l) rfl⟩
end
end SN
end TQEQ

section TQPN
set_option Elab.async false
set_option linter.all false
set_option maxRecDepth 100000
set_option maxHeartbeats 4000017
/-! QPN: the pen, draws. -/
namespace SN
open PySem PySem.Spec PyProof.Rows L2 NdefX
section
variable {K H K' H' K1 H1 : Hp} {p : Addr} {o : HO}
/-- for a while p is known, too -/
theorem le_put (l : Le K (era H p)) (h : H p = some o) : Le (upd K p o) H := fun a c q => by
  by_cases e : a = p
  · subst e; unfold co at q ⊢; rw [upd_same] at q; rw [h]; exact q
  · have : co K a = some c := by unfold co at q ⊢; rw [upd_ne e] at q; exact q
    have := l a c this
    unfold co at this ⊢
    rw [era_ne e] at this; exact this
theorem le_put0 (hk : K p = none) : Le K (upd K p o) := le_new' hk
theorem Nxt.unput (n : Nxt (upd K p o) H K1 H1) (hk : K p = none) (hd : H p = some o) (ht : isTup o = false) : Nxt K (SN.era H p) (SN.era K1 p) (SN.era H1 p) := by
  refine ⟨fun a c q => ?_, fun a c q => ?_, fun a u q => ?_, fun a u q1 q2 q3 => ?_⟩
  · by_cases e : a = p
    · subst e; rw [co_none.mpr hk] at q; cases q
    · have := n.le a c (by unfold co at q ⊢; rw [upd_ne e]; exact q)
      unfold co at this ⊢; rw [era_ne e]; exact this
  · by_cases e : a = p
    · subst e; unfold co at q; rw [era_self] at q; cases q
    · have : co K1 a = some c := by unfold co at q ⊢; rw [era_ne e] at q; exact q
      have := n.in_ a c this
      unfold co at this ⊢; rw [era_ne e]; exact this
  · by_cases e : a = p
    · subst e; rw [era_self] at q; cases q
    · rw [era_ne e] at q ⊢; exact n.same a u q
  · by_cases e : a = p
    · subst e; rw [era_self]
    · rw [era_ne e] at q1 ⊢
      exact n.out a u q1 q2 (by rw [upd_ne e]; exact q3)
end
theorem Nxt.weak {K H K1 H1 : Hp} (n : Nxt K H K1 H1) : Nxt K H K H1 := ⟨Le.refl K, n.le.trans n.in_, n.same, fun _ _ _ _ h => h⟩
section
variable {X : Cx} {α : Type} {σ : L2.St} {K H : Hp} {r : Rel α} {a : α}
theorem ev_intOf {e : Expr} {p pos : Pos} {i : Int} (hm : X.mg "int" = none) (h : EV X e σ K rInt i) (hg : Gl X "int" := by rfl) (he : starEach [e] X.env = (false, eval e X.env) :: starEach [] X.env := by rfl) (hpl : (backTo pos (starEach [] X.env)).any (·.1) = false := by rfl) :
    EV X (.Call (.Name "int" p) [e] [] pos) σ K rInt i :=
  ev_callTy call_int1 hm (by decide +kernel) (ea_1 h he) (fun vs K1 H1 Q _ l ⟨v, _, e1, hv, e3⟩ q => by
    subst e3; subst e1
    obtain rfl : v = .int i := hv
    exact .inl ⟨i, rfl, q _ K1 H1 (.refl l) rfl⟩) hg (by decide) (by decide) he hpl
theorem ev_absOf {e : Expr} {p pos : Pos} {i : Int} (hm : X.mg "abs" = none) (h : EV X e σ K rInt i) (hg : Gl X "abs" := by rfl) (he : starEach [e] X.env = (false, eval e X.env) :: starEach [] X.env := by rfl) (hpl : (backTo pos (starEach [] X.env)).any (·.1) = false := by rfl) :
    EV X (.Call (.Name "abs" p) [e] [] pos) σ K rInt (if i < 0 then -i else i) :=
  ev_callB call_abs hm (by decide +kernel) (ea_1 h he) (fun vs K1 H1 Q _ l ⟨v, _, e1, hv, e3⟩ q => by
    subst e3; subst e1
    obtain rfl : v = .int i := hv
    exact ⟨i, rfl, q _ K1 H1 (.refl l) rfl⟩) hg (by decide) (by decide) he hpl
theorem ev_powI {a b : Expr} {pos : Pos} {i j : Int} (c : CPow i j) (ha : EV X a σ K rInt i) (hb : EV X b σ K rInt j) : EV X (.BinOp a .Pow b pos) σ K rInt (i ^ j.toNat) := ev_op op_pow ha hb (opIc c fun _ => rfl)
/-- d['x'] of a dict that is known as it is -/
theorem ev_dstr {ob : Expr} {pos pos' : Pos} {j} {p : Addr} {kvs : List (Key × V)} {x : Str} {v : V} (hu : X.A.units + 1 < cLine) (ho : EV X ob σ K rVal (.ref p)) (hp : co K p = some (.dK kvs)) (hv : valV kvs (.inr x) = some v) (hr : r.r K v a) : EV X (.Subscript ob (.Constant (.str x) j pos') pos) σ K r a := fun H le Q q =>
  PE.to (pe_dget hu (peW ob) (peW _) (by exact fun _ _ => rfl)) (ho H le _ fun u K1 H1 n1 hu1 => (ev_str (i := x)).mono n1.le H1 n1.in_ _ fun z K2 H2 n2 hz => by
    have n := n1.trans n2
    have g := co_dK.mp (n.in_ p _ (n.le p _ hp))
    exact ⟨p, v, hu1, .inl ⟨kvs, .inr x, g, hz, hv.symm⟩, q v K2 H2 n (r.mono n.le hr)⟩)
/-- d['x'] = e, d known for a while -/
theorem s_dstr {value ob : Expr} {pos pos' pos2 : Pos} {j} {D : Ends} {p : Addr} {kvs : List (Key × V)} {x : Str} {i : Int} (hu : X.A.units + 1 < cLine) (hk : K p = none) (le : Le (upd K p (.dK kvs)) H) (hd : H p = some (.dK kvs)) (hz : kvs.length < 1000) (hv : EV X value σ (upd K p (.dK kvs)) rInt i) (ho : EV X ob σ (upd K p (.dK kvs)) rVal (.ref p))
    (k : ∀ K' H', Nxt K (era H p) K' (era H' p) → H' p = some (.dK (putK kvs (.inr x) (.int i))) → D.nx σ H')
    (hs : swapsWith value (some (.Subscript ob (.Constant (.str x) j pos2) pos')) pos.line X.env = pure false := by rfl) : wS X (.Assign [.Subscript ob (.Constant (.str x) j pos2) pos'] value pos) D σ H :=
  PS.to (ps_dput hu (peW ob) (peW _) (peW value) hs) (hv H le _ fun v K1 H1 n1 hv => ho.mono n1.le H1 n1.in_ _ fun w K2 H2 n2 hw => (ev_str (i := x)).mono (n1.trans n2).le H2 n2.in_ _ fun u K3 H3 n3 hc => by
    have n := (n1.trans n2).trans n3
    have hd3 := n.same p _ hd
    obtain rfl : w = .ref p := hw
    obtain rfl : u = .str x := hc
    obtain rfl : v = .int i := hv
    exact ⟨p, _, rfl, DPut.k (k := .inr x) hd3 (sz3 (by omega)), k (era K3 p) _ ((n.unput hk hd rfl).updE) upd_same⟩)
/-- statements about ints beside p -/
theorem s_asgP {p : Addr} {o : HO} {e : Expr} {x : Str} {i : Nat} {z : Int} {pos pos' : Pos} {D : Ends} (hN : X.N.Nodup) (hi : X.N[i]? = some x) (hx : Loc X.env.scope x) (le : Le K (era H p)) (hd : H p = some o) (ht : isTup o = false) (h : EV X e σ (upd K p o) rInt z)
    (k : ∀ H', Nxt K (era H p) K (era H' p) → H' p = some o → D.nx (σ.set i (some (.int z))) H')
    (hs : swapsWith e (some (.Name x pos')) pos.line X.env = pure false := by rfl) (hf : X.fn x = true ∨ X.env.scope.names.lookup x = some .local := by first | exact .inl rfl | exact .inr rfl) : wS X (.Assign [.Name x pos'] e pos) D σ H :=
  s_asg hN hi hx (le_put le hd) h (fun v K' H' n hv => by
    obtain rfl : v = .int z := hv
    exact k H' (n.unput (le_era_none le) hd ht).weak (n.same p _ hd)) hs hf
theorem s_ifP {p : Addr} {o : HO} {c : Expr} {s1 s2 : List Stmt} {pos : Pos} {b : Bool} {D : Ends} (le : Le K (era H p)) (hd : H p = some o) (ht : isTup o = false) (h : ET X c σ (upd K p o) b) (h1 : b = true → ∀ H1, Nxt K (era H p) K (era H1 p) → H1 p = some o → wSs X s1 D σ H1) (h2 : b = false → ∀ H1, Nxt K (era H p) K (era H1 p) → H1 p = some o → wSs X s2 D σ H1) : wS X (.If c s1 s2 pos) D σ H :=
  s_if (le_put le hd) h (fun e H1 s l => h1 e H1 ((Nxt.same1 (le_put le hd) s).unput (le_era_none le) hd ht).weak (s p _ hd)) fun e H1 s l => h2 e H1 ((Nxt.same1 (le_put le hd) s).unput (le_era_none le) hd ht).weak (s p _ hd)
theorem s_retP {p : Addr} {o : HO} {e : Expr} {z : Int} {pos : Pos} {D : Ends} (le : Le K (era H p)) (hd : H p = some o) (ht : isTup o = false) (h : EV X e σ (upd K p o) rInt z) (k : ∀ H', Nxt K (era H p) K (era H' p) → H' p = some o → D.rt (.int z) H') : wS X (.Return (some e) pos) D σ H :=
  s_ret (le_put le hd) h fun v K' H' n hv => by
    obtain rfl : v = .int z := hv
    exact k H' (n.unput (le_era_none le) hd ht).weak (n.same p _ hd)
theorem s_dstrP {value ob : Expr} {pos pos' pos2 : Pos} {j} {D : Ends} {p : Addr} {kvs : List (Key × V)} {x : Str} {i : Int} (hu : X.A.units + 1 < cLine) (le : Le K (era H p)) (hd : H p = some (.dK kvs)) (hz : kvs.length < 1000) (hv : EV X value σ (upd K p (.dK kvs)) rInt i) (ho : EV X ob σ (upd K p (.dK kvs)) rVal (.ref p))
    (k : ∀ H', Nxt K (era H p) K (era H' p) → H' p = some (.dK (putK kvs (.inr x) (.int i))) → D.nx σ H')
    (hs : swapsWith value (some (.Subscript ob (.Constant (.str x) j pos2) pos')) pos.line X.env = pure false := by rfl) : wS X (.Assign [.Subscript ob (.Constant (.str x) j pos2) pos'] value pos) D σ H :=
  s_dstr hu (le_era_none le) (le_put le hd) hd hz hv ho (fun K' H' n e => k H' n.weak e) hs
theorem s_parP {p : Addr} {o : HO} {e1 e2 : Expr} {x y : Str} {i j : Nat} {z1 z2 : Int} {px py pt pos : Pos} {kt k2 pt2} {D : Ends} (hc : X.calm = true) (hN : X.N.Nodup) (hi : X.N[i]? = some x) (hj : X.N[j]? = some y) (hij : i ≠ j) (hx : X.env.scope.names.lookup x = some .local) (hy : X.env.scope.names.lookup y = some .local)
    (le : Le K (era H p)) (hd : H p = some o) (ht : isTup o = false) (h1 : EV X e1 σ (upd K p o) rInt z1) (h2 : EV X e2 σ (upd K p o) rInt z2) (k : ∀ H', Nxt K (era H p) K (era H' p) → H' p = some o → D.nx ((σ.set i (some (.int z1))).set j (some (.int z2))) H')
    (hw : swappedStores [.Tuple [.Name x px, .Name y py] kt pt] (.Tuple [e1, e2] k2 pt2) X.env = pure (some [x, y]) := by rfl)
    (hs : swapsWithSole [.Tuple [.Name x px, .Name y py] kt pt] (.Tuple [e1, e2] k2 pt2) pos.line X.env = pure false := by rfl)
    (he1 : starEach [e1, e2] X.env = (false, eval e1 X.env) :: starEach [e2] X.env := by rfl) (he2 : starEach [e2] X.env = (false, eval e2 X.env) :: starEach [] X.env := by rfl) : wS X (.Assign [.Tuple [.Name x px, .Name y py] kt pt] (.Tuple [e1, e2] k2 pt2) pos) D σ H :=
  PS.to (ps_par hc hN hi hj hij hx hy (paW [e1, e2]) hw hs) (ea_cons h1 (ea_1 h2 he2) (mo_cons mo_nil) he1 H (le_put le hd) _ fun vs K1 H1 n ⟨v, _, e1, hv, u, _, e2, hu, e3⟩ => by
    subst e3; subst e2
    obtain rfl : v = .int z1 := hv
    obtain rfl : u = .int z2 := hu
    exact ⟨_, _, e1, k H1 (n.unput (le_era_none le) hd ht).weak (n.same p _ hd)⟩)
end
/-! ### the pen -/
abbrev penL (pc : Addr) (b r : Int) : List (Key × V) := [(.inr "cells", .ref pc), (.inr "begun", .int b), (.inr "rest", .int r)]
theorem k_cb : ¬ ((Sum.inr ("cells" : Str) : Key) = Sum.inr ("begun" : Str)) := by decide +kernel
theorem k_rb : ¬ ((Sum.inr ("rest" : Str) : Key) = Sum.inr ("begun" : Str)) := by decide +kernel
theorem k_cr : ¬ ((Sum.inr ("cells" : Str) : Key) = Sum.inr ("rest" : Str)) := by decide +kernel
theorem k_br : ¬ ((Sum.inr ("begun" : Str) : Key) = Sum.inr ("rest" : Str)) := by decide +kernel
theorem d_no {q : Prop} [Decidable q] (h : ¬ q) : ¬ decide q = true := by rw [decide_eq_false h]; exact Bool.false_ne_true
theorem pen_b {pc : Addr} {b r x : Int} : putK (penL pc b r) (.inr "begun") (.int x) = penL pc x r := by
  have h : ((penL pc b r).any fun kv => decide (kv.1 = Sum.inr ("begun" : Str))) = true := by
    simp only [penL, List.any_cons, decide_eq_false k_cb, decide_true, Bool.true_or, Bool.or_true, Bool.false_or]
  unfold putK
  rw [if_pos h]
  simp only [penL, List.map_cons, List.map_nil, if_neg k_cb, if_neg k_rb, if_true]
theorem pen_r {pc : Addr} {b r x : Int} : putK (penL pc b r) (.inr "rest") (.int x) = penL pc b x := by
  have h : ((penL pc b r).any fun kv => decide (kv.1 = Sum.inr ("rest" : Str))) = true := by
    simp only [penL, List.any_cons, decide_eq_false k_cr, decide_eq_false k_br, decide_true, Bool.true_or, Bool.or_true, Bool.false_or]
  unfold putK
  rw [if_pos h]
  simp only [penL, List.map_cons, List.map_nil, if_neg k_cr, if_neg k_br, if_true]
theorem pen_gc {pc : Addr} {b r : Int} : valV (penL pc b r) (.inr "cells") = some (.ref pc) := by
  simp only [valV, penL, List.find?_cons, decide_true, Option.map_some]
theorem pen_gb {pc : Addr} {b r : Int} : valV (penL pc b r) (.inr "begun") = some (.int b) := by
  simp only [valV, penL, List.find?_cons, decide_eq_false k_cb, decide_true, Option.map_some]
theorem pen_gr {pc : Addr} {b r : Int} : valV (penL pc b r) (.inr "rest") = some (.int r) := by
  simp only [valV, penL, List.find?_cons, decide_eq_false k_cr, decide_eq_false k_br, decide_true, Option.map_some]
/-- what a pen reads, a list of cells at c.1 -/
abbrev PenC := Addr × List Int
def PenK (F : PySem.W.Frag) (K : Hp) (c : PenC) : Prop := (rLst F rInt).r K (.ref c.1) c.2 ∧ c.2.length ≤ 63
theorem PenK.mono {F : PySem.W.Frag} {K K' : Hp} {c : PenC} (h : PenK F K c) (l : Le K K') : PenK F K' c := ⟨(rLst F rInt).mono l h.1, h.2⟩
/-- a pen at p that may yet be asked k times -/
def PenO (H : Hp) (p : Addr) (c : PenC) (k : Nat) : Prop := ∃ b r, H p = some (.dK (penL c.1 b r)) ∧ 0 ≤ b ∧ b + k ≤ 100000 ∧ 0 ≤ r
theorem PenO.less {H : Hp} {p : Addr} {c : PenC} {j k : Nat} (h : PenO H p c k) (hj : j ≤ k) : PenO H p c j := by
  obtain ⟨b, r, h1, h3, h4, h5⟩ := h
  exact ⟨b, r, h1, h3, by omega, h5⟩
theorem PenO.obj {H : Hp} {p : Addr} {c : PenC} {k : Nat} (h : PenO H p c k) : ∃ l, H p = some (.dK l) := by obtain ⟨b, r, h1, _⟩ := h; exact ⟨_, h1⟩
theorem PenO.nxt {H H' : Hp} {p : Addr} {c : PenC} {k : Nat} (h : PenO H p c k) (s : Same H H') : PenO H' p c k := by
  obtain ⟨b, r, h1, h3⟩ := h
  exact ⟨b, r, s p _ h1, h3⟩
theorem PenO.put {H : Hp} {p q : Addr} {o : HO} {c : PenC} {k : Nat} (h : PenO H p c k) (e : p ≠ q) : PenO (upd H q o) p c k := by
  obtain ⟨b, r, h1, h3⟩ := h
  exact ⟨b, r, by rw [upd_ne e]; exact h1, h3⟩
def spDraw (F : PySem.W.Frag) : Sp := fun vs H Q _ => ∃ K p m k c, vs = [.ref p, .int m] ∧ Le K (era H p) ∧ PenK F K c ∧ PenO H p c (k + 1) ∧ 1 ≤ m ∧ m ≤ 1000 ∧ ∀ v K' H', Nxt K (era H p) K' (era H' p) → PenO H' p c k → 0 ≤ v → v < m → Q (.int v) H'
abbrev stDraw : Stmt := top 61
abbrev NDraw : List Str := ["_law_pen_here", "_law_many", "_law_digit", "_law_place", "_law_size", "_law_told", "_law_mixed"]
structure TL (mg : Str → Option Value) : Prop where
  abs : mg "abs" = none
  repr : mg "repr" = none
  dict : mg "dict" = none
section
variable {P : Program} {w : World} {F : PySem.W.Frag} {mg : Str → Option Value} {base : Heap}
theorem df_draw (T : TX w F mg) (B : TB mg) (L : TL mg) (G : FnF F mg "_law_draw" stDraw ["_law_pen_here", "_law_many"]) : Df P w F mg base 1 "_law_draw" (spDraw F) := by
  have S : FnScope NDraw ["_law_pen_here", "_law_many"] (defScope stDraw) := ⟨rfl, rfl, rfl, by decide +kernel, rfl, by decide +kernel, by decide +kernel⟩
  refine df_fn (N := NDraw) G S (fun vs H Q E ⟨K, p, m, k, c, e, _⟩ => by rw [e]; rfl) ?_
  rintro X _ H Q E f cdv A outer s rfl hr ⟨K, p, m, k, ⟨pc, cells⟩, rfl, le, ⟨hc, hz⟩, ⟨b, r, hd, b0, bk, r0⟩, m1, m2, q⟩
  have hu := hu_of hr
  have hk := le_era_none le
  have tt : ∀ b r, isTup (.dK (penL pc b r)) = false := fun _ _ => rfl
  have gp : ∀ b r, co (upd K p (.dK (penL pc b r))) p = some (.dK (penL pc b r)) := fun b r => co_dK.mpr (.inl upd_same)
  refine ss_cons (s_ifP (b := decide (0 < r)) le hd rfl (et_gt (ev_dstr (r := rInt) (a := r) hu (ev_name 0 rfl rfl) (gp b r) pen_gr rfl) ev_int) (fun e H1 n1 d1 => ?_) fun e H1 n1 d1 => ?_)
  · -- a digit of the rest
    refine ss_cons (s_asgP (i := 2) (z := r % m) S.nd rfl (Or.inl rfl) n1.in_ d1 rfl (ev_mod (by omega) (ev_intOf B.int (ev_dstr (r := rInt) (a := r) hu (ev_name 0 rfl rfl) (gp b r) pen_gr rfl)) (ev_name 1 rfl rfl)) fun H2 n2 d2 => ?_)
    refine ss_cons (s_dstrP (i := r / m) hu n2.in_ d2 (by show 3 < 1000; decide) (ev_fdiv ⟨by omega, by omega⟩ (ev_dstr (r := rInt) (a := r) hu (ev_name 0 rfl rfl) (gp b r) pen_gr rfl) (ev_name 1 rfl rfl)) (ev_name 0 rfl rfl) fun H3 n3 d3 => ?_)
    rw [pen_r] at d3
    refine ss_one (s_retP (z := r % m) n3.in_ d3 rfl (ev_name 2 rfl rfl) fun H4 n4 d4 => ?_)
    exact q _ K H4 (((n1.trans n2).trans n3).trans n4) ⟨b, r / m, d4, b0, by omega, Int.ediv_nonneg r0 (by omega)⟩ (Int.emod_nonneg _ (by omega)) (Int.emod_lt_of_pos _ (by omega))
  · refine ss_nil ?_
    have lc : (rLst F rInt).r (upd K p (.dK (penL pc b r))) (.ref pc) cells := (rLst F rInt).mono (le_put0 hk) hc
    refine ss_cons (s_parP (i := 3) (j := 4) (z1 := b) (z2 := (cells.length : Int)) rfl S.nd rfl rfl (by decide) rfl rfl n1.in_ d1 rfl (ev_dstr (r := rInt) (a := b) hu (ev_name 0 rfl rfl) (gp b r) pen_gb rfl) (ev_lenL (l := cells) T.bLen (ev_dstr (r := rLst F rInt) (a := cells) hu (ev_name 0 rfl rfl) (gp b r) pen_gc lc)) fun H2 n2 d2 => ?_)
    refine ss_cons (s_dstrP (i := b + 1) hu n2.in_ d2 (by show 3 < 1000; decide) (ev_add (ev_name 3 rfl rfl) ev_int) (ev_name 0 rfl rfl) fun H3 n3 d3 => ?_)
    rw [pen_b] at d3
    have lc : (rLst F rInt).r (upd K p (.dK (penL pc (b + 1) r))) (.ref pc) cells := (rLst F rInt).mono (le_put0 hk) hc
    have n03 := (n1.trans n2).trans n3
    have pen (x : Int) (hx : 0 ≤ x) (H' : Hp) (d : H' p = some (.dK (penL pc (b + 1) x))) : PenO H' p (pc, cells) k := ⟨b + 1, x, d, by omega, by omega, hx⟩
    generalize et : (if (0 : Int) < (cells.length : Int) then cells.getD (b % (cells.length : Int)).toNat 0 else 73 * b + 19) = told
    refine ss_cons (s_asgP (i := 5) (z := told) S.nd rfl (Or.inl rfl) n3.in_ d3 rfl (ev_ifexp (b := decide ((0 : Int) < (cells.length : Int))) (et_gt (ev_name 4 rfl rfl) ev_int) (fun e2 => ?_) fun e2 => ?_) fun H4 n4 d4 => ?_)
    · have e2 := of_decide_eq_true e2
      rw [if_pos e2] at et
      have m0 : 0 ≤ b % (cells.length : Int) := Int.emod_nonneg _ (by omega)
      have m1 : b % (cells.length : Int) < cells.length := Int.emod_lt_of_pos _ e2
      refine ev_itL (l := cells) (j := (b % (cells.length : Int)).toNat) (ev_dstr (r := rLst F rInt) (a := cells) hu (ev_name 0 rfl rfl) (gp (b + 1) r) pen_gc lc) ((ev_mod (by omega) (ev_intOf B.int (ev_name 3 rfl rfl)) (ev_name 4 rfl rfl)).of (nat_of m0)) ?_
      rw [← et, List.getD, List.getElem?_eq_getElem (by omega)]; rfl
    · have e2 := of_decide_eq_false e2
      rw [if_neg e2] at et
      exact (ev_add (ev_mul (.inl ⟨by decide, by decide⟩) ev_int (ev_name 3 rfl rfl)) ev_int).of et
    generalize eA : (if told < 0 then -told else told) = ab
    have a0 : 0 ≤ ab := by rw [← eA]; split <;> omega
    have p18 : (10 : Int) ^ (18 : Int).toNat = 1000000000000000000 := by decide
    refine ss_cons (s_ifP (b := decide (b < (cells.length : Int)) && decide (1000000000000000000 ≤ ab)) n4.in_ d4 rfl (EW.et (ew_and (et_lt (ev_name 3 rfl rfl) (ev_name 4 rfl rfl)) fun _ => ew_and1 (et_ge ((ev_absOf L.abs (ev_name 5 rfl rfl)).of eA) ((ev_powI ⟨by decide, by decide, by decide⟩ ev_int ev_int).of p18)))) (fun e5 H5 n5 d5 => ?_) fun e5 H5 n5 d5 => ?_)
    · obtain ⟨_, e6⟩ := Bool.and_eq_true_iff.mp e5
      have e6 := of_decide_eq_true e6
      refine ss_cons (s_dstrP (i := (ab - 1000000000000000000) / m) hu n5.in_ d5 (by show 3 < 1000; decide) (ev_fdiv ⟨by omega, by omega⟩ (ev_sub ((ev_absOf L.abs (ev_name 5 rfl rfl)).of eA) ((ev_powI ⟨by decide, by decide, by decide⟩ ev_int ev_int).of p18)) (ev_name 1 rfl rfl)) (ev_name 0 rfl rfl) fun H6 n6 d6 => ?_)
      rw [pen_r] at d6
      refine ss_one (s_retP (z := (ab - 1000000000000000000) % m) n6.in_ d6 rfl (ev_mod (by omega) (ev_sub ((ev_absOf L.abs (ev_name 5 rfl rfl)).of eA) ((ev_powI ⟨by decide, by decide, by decide⟩ ev_int ev_int).of p18)) (ev_name 1 rfl rfl)) fun H7 n7 d7 => ?_)
      exact q _ K H7 ((((n03.trans n4).trans n5).trans n6).trans n7) (pen _ (Int.ediv_nonneg (by omega) (by omega)) H7 d7) (Int.emod_nonneg _ (by omega)) (Int.emod_lt_of_pos _ (by omega))
    · refine ss_nil ?_
      have t0 := Int.emod_nonneg told (show (4294967231 : Int) ≠ 0 by decide)
      have t1 := Int.emod_lt_of_pos told (show (0 : Int) < 4294967231 by decide)
      generalize eM : (told % 4294967231 * 48271 + 30269 * b * b + 211) % 4294967279 = x1
      have x10 : 0 ≤ x1 := by rw [← eM]; exact Int.emod_nonneg _ (by decide)
      have x11 : x1 < 4294967279 := by rw [← eM]; exact Int.emod_lt_of_pos _ (by decide)
      refine ss_cons (s_asgP (i := 6) (z := x1) S.nd rfl (Or.inl rfl) n5.in_ d5 rfl ((ev_mod (by decide) (ev_intOf B.int (ev_add (ev_add (ev_mul (.inr ⟨by decide, by decide⟩) (ev_mod (by decide) (ev_intOf B.int (ev_name 5 rfl rfl)) ev_int) ev_int) (ev_mul (.inr ⟨by omega, by omega⟩) (ev_mul (.inl ⟨by decide, by decide⟩) ev_int (ev_name 3 rfl rfl)) (ev_name 3 rfl rfl))) ev_int)) ev_int).of eM) fun H6 n6 d6 => ?_)
      generalize eM2 : (x1 * x1 + 69069 * x1 + 23 * b + 7) % 4294967291 = x2
      have x20 : 0 ≤ x2 := by rw [← eM2]; exact Int.emod_nonneg _ (by decide)
      have x21 : x2 < 4294967291 := by rw [← eM2]; exact Int.emod_lt_of_pos _ (by decide)
      refine ss_cons (s_asgP (i := 6) (z := x2) S.nd rfl (Or.inl rfl) n6.in_ d6 rfl ((ev_mod (by decide) (ev_intOf B.int (ev_add (ev_add (ev_add (ev_mul (.inl ⟨by omega, by omega⟩) (ev_name 6 rfl rfl) (ev_name 6 rfl rfl)) (ev_mul (.inl ⟨by decide, by decide⟩) ev_int (ev_name 6 rfl rfl))) (ev_mul (.inl ⟨by decide, by decide⟩) ev_int (ev_name 3 rfl rfl))) ev_int)) ev_int).of eM2) fun H7 n7 d7 => ?_)
      generalize eM3 : (x2 * (x2 + 32771)) % 4294967197 / 64 = x3
      refine ss_cons (s_asgP (i := 6) (z := x3) S.nd rfl (Or.inl rfl) n7.in_ d7 rfl ((ev_fdiv ⟨by decide, by decide⟩ (ev_mod (by decide) (ev_intOf B.int (ev_mul (.inl ⟨by omega, by omega⟩) (ev_name 6 rfl rfl) (ev_add (ev_name 6 rfl rfl) ev_int))) ev_int) ev_int).of eM3) fun H8 n8 d8 => ?_)
      refine ss_cons (s_ifP (b := false) n8.in_ d8 rfl ((et_gt (ev_name 1 rfl rfl) ev_int).of (decide_eq_false (by omega))) (fun e => Bool.noConfusion e) fun _ H9 n9 d9 => ?_)
      refine ss_nil (ss_one (s_retP (z := x3 % m) n9.in_ d9 rfl (ev_mod (by omega) (ev_intOf B.int (ev_name 6 rfl rfl)) (ev_name 1 rfl rfl)) fun H10 n10 d10 => ?_))
      exact q _ K H10 (((((((n03.trans n4).trans n5).trans n6).trans n7).trans n8).trans n9).trans n10) (pen r r0 H10 d10) (Int.emod_nonneg _ (by omega)) (Int.emod_lt_of_pos _ (by omega))
end
end SN
end TQPN

section TQBX
set_option Elab.async false
set_option linter.all false
set_option maxRecDepth 100000
set_option maxHeartbeats 4000017
/-! QBX: _law_pen, _law_pick, _law_box. -/
namespace SN
open PySem PySem.Spec PyProof.Rows L2 NdefX
section
variable {K H K' H' K1 H1 : Hp} {p a : Addr} {o : HO}
theorem Nxt.unput' (n : Nxt (upd K a o) H K1 H1) (hk : K a = none) : Nxt K H (SN.era K1 a) H1 := by
  refine ⟨fun x c q => ?_, fun x c q => ?_, n.same, fun x u q1 q2 q3 => ?_⟩
  · by_cases e : x = a
    · subst e; rw [co_none.mpr hk] at q; cases q
    · have := n.le x c (by unfold co at q ⊢; rw [upd_ne e]; exact q)
      unfold co at this ⊢; rw [era_ne e]; exact this
  · by_cases e : x = a
    · subst e; unfold co at q; rw [era_self] at q; cases q
    · have : co K1 x = some c := by unfold co at q ⊢; rw [era_ne e] at q; exact q
      exact n.in_ x c this
  · by_cases e : x = a
    · subst e; exact era_self
    · rw [era_ne e]
      exact n.out x u q1 q2 (by rw [upd_ne e]; exact q3)
theorem lk_era {H H' : Hp} {p : Addr} {o : HO} (s : Same (era H p) (era H' p)) (h : H p = some o) (hn : ∀ ob u, o ≠ .frz ob u) : Lk H H' := fun d ob u e => by
  have : d ≠ p := fun z => by subst z; rw [h] at e; exact hn ob u (Option.some.inj e)
  have := s d _ (by rw [era_ne this]; exact e)
  rwa [era_ne ‹d ≠ p›] at this
theorem pen_nf {l : List (Key × V)} : ∀ ob u, HO.dK l ≠ .frz ob u := fun _ _ e => nomatch e
end
section
variable {X : Cx} {σ : L2.St} {K H : Hp} {p : Addr}
/-- a draw, asked within an expression -/
theorem w_draw {e1 e2 : Expr} {p0 pos : Pos} {m : Int} {k n : Nat} {c : PenC} {Q : VK} (D : DfX X n "_law_draw" (spDraw X.K)) (hr : Room n X.A) (le : Le K (era H p)) (pc : PenK X.K K c) (pen : PenO H p c (k + 1)) (h1 : EV X e1 σ K rVal (.ref p)) (h2 : EV X e2 σ K rInt m) (m1 : 1 ≤ m) (m2 : m ≤ 1000)
    (q : ∀ v K' H', Nxt K (era H p) K' (era H' p) → PenO H' p c k → 0 ≤ v → v < m → Q (.int v) H')
    (hg : Gl X "_law_draw" := by rfl) (he : starEach [e1, e2] X.env = (false, eval e1 X.env) :: starEach [e2] X.env := by rfl) (he2 : starEach [e2] X.env = (false, eval e2 X.env) :: starEach [] X.env := by rfl) (hpl : (backTo pos (starEach [e2] X.env)).any (·.1) = false := by rfl) :
    wE X (.Call (.Name "_law_draw" p0) [e1, e2] [] pos) σ H Q := by
  obtain ⟨f', hm, hk, FR⟩ := D.ex
  obtain ⟨l, hd⟩ := pen.obj
  exact PE.to (pe_df (E := E0') hm hk FR hr passL' (paW [e1, e2]) hg (by decide) he hpl) (ea_cons h1 (ea_1 h2 he2) (mo_cons mo_nil) he H (era_le le) _ fun vs K2 H2 n2 ⟨v, _, e1, hv, u, _, e2, hu, e3⟩ => by
    subst e3; subst e2; subst e1
    obtain rfl : v = .ref p := hv
    obtain rfl : u = .int m := hu
    have n3 := n2.era (le_era_none le) hd rfl
    exact ⟨K2, p, m, k, c, rfl, n3.in_, pc.mono n2.le, pen.nxt n2.same, m1, m2, fun v K' H' n hp h0 h1 => q v K' H' (n3.trans n) hp h0 h1⟩)
/-- l.append(e) -/
theorem s_app {ob e : Expr} {apos cpos pos : Pos} {a : Addr} {xs : List V} {D : Ends} (le : Le K H) (ho : EV X ob σ K rVal (.ref a)) (hd : H a = some (.lst xs)) (hz : xs.length < 1000)
    (hw : ∀ K1 H1, Nxt K H K1 H1 → H1 a = some (.lst xs) → wE X e σ H1 fun y H2 => H2 a = some (.lst xs) ∧ D.nx σ (upd H2 a (.lst (xs ++ [y]))))
    (hbase : attributeBase ob "append" X.env (eval ob X.env) = eval ob X.env := by rfl)
    (hfew : ((backTo cpos (starEach [e] X.env)).all (fun x => !x.1) && (backToKw cpos (keywordEach [] X.env)).all (fun x => x.1.isSome)
      && decide ([e].length + ([] : List Keyword).length + (if ([] : List Keyword).isEmpty then 0 else 1) < 30)) = true := by rfl)
    (hline : (apos.endLine == cpos.line) = true := by rfl) (hs : starEach [e] X.env = (false, eval e X.env) :: starEach [] X.env := by rfl) (hplain : (backTo cpos (starEach [] X.env)).any (·.1) = false := by rfl)
    (hsw : swapsWith (.Call (.Attribute ob "append" apos) [e] [] cpos) none pos.line X.env = pure false := by rfl) : wS X (.Expr (.Call (.Attribute ob "append" apos) [e] [] cpos) pos) D σ H :=
  PS.to (ps_expr (pe_bm PySem.F.plainAttrs_list PySem.F.slot_list_append PySem.F.type_list_append mt_append (peW ob) (pa_cons (peW e) pa_nil hs) hbase hfew hline hs hplain) hsw) (ho H le _ fun v K1 H1 n1 hv => by
    obtain rfl : v = .ref a := hv
    have hd1 := n1.same a _ hd
    refine ⟨.inl ⟨rfl, _, SqL.of hd1⟩, ?_⟩
    exact fun pins s I => wpAny_mono (hw K1 H1 n1 hd1 pins s I) (fun u s2 ⟨y, H2, I2, ry, e2, q⟩ => ⟨y, H2, I2, ry, a, xs, y, rfl, rfl, e2, Nat.lt_of_lt_of_le hz (by decide), q⟩) fun _ _ x => x)
end
theorem rCell_era {K : Hp} {v : V} {c : Cell} {a : Addr} {l : List V} (h : rCell.r K v c) (ha : co K a = some (.lst l)) : rCell.r (era K a) v c := by
  obtain ⟨p, e, g⟩ := h
  refine ⟨p, e, ?_⟩
  have : p ≠ a := fun z => by subst z; rw [ha] at g; cases g
  unfold co at g ⊢
  rw [era_ne this]; exact g
theorem rBox_era {K : Hp} {v : V} {b : Box} {a : Addr} {l : List V} (h : rBox.r K v b) (ha : co K a = some (.lst l)) : rBox.r (era K a) v b := by
  obtain ⟨p, x, y, e, g, g1, g2⟩ := h
  refine ⟨p, x, y, e, ?_, rCell_era g1 ha, rCell_era g2 ha⟩
  have : p ≠ a := fun z => by subst z; rw [ha] at g; cases g
  unfold co at g ⊢
  rw [era_ne this]; exact g
theorem getD_app {l : List Int} {x : Int} {j : Nat} (h : j < l.length) : (l ++ [x]).getD j 0 = l.getD j 0 := by
  simp only [List.getD, List.getElem?_append_left h]
theorem getD_last {l : List Int} {x : Int} : (l ++ [x]).getD l.length 0 = x := by
  simp [List.getD]
def In5 (lo hi : Int) : Prop := 0 ≤ lo ∧ lo < hi ∧ hi ≤ 5
structure GoodB (b : Box) : Prop where
  x : In5 b.1.1 b.2.1
  y : In5 b.1.2.1 b.2.2.1
  z : In5 b.1.2.2 b.2.2.2
/-- promises of defs that draw -/
def spPen (F : PySem.W.Frag) {α : Type} (r : Rel α) (good : α → Prop) (cost : Nat) : Sp := fun vs H Q _ => ∃ K p k c, vs = [.ref p] ∧ Le K (era H p) ∧ PenK F K c ∧ PenO H p c (k + cost) ∧ ∀ v a K' H', Nxt K (era H p) K' (era H' p) → PenO H' p c k → r.r K' v a → good a → Q v H'
abbrev stBox : Stmt := top 63
abbrev NBox : List Str := ["_law_pen_here", "_law_low", "_law_high", "_law_k"]
abbrev lints (l : List Int) : HO := .lst (l.map V.int)
section
variable {P : Program} {w : World} {F : PySem.W.Frag} {mg : Str → Option Value} {base : Heap}
theorem df_box (T : TX w F mg) (Dd : Df P w F mg base 1 "_law_draw" (spDraw F)) (G : FnF F mg "_law_box" stBox ["_law_pen_here"]) : Df P w F mg base 2 "_law_box" (spPen F rBox GoodB 6) := by
  have S : FnScope NBox ["_law_pen_here"] (defScope stBox) := ⟨rfl, rfl, rfl, by decide +kernel, rfl, by decide +kernel, by decide +kernel⟩
  refine df_fn (N := NBox) G S (fun vs H Q E ⟨K, p, k, c, e, _⟩ => by rw [e]; rfl) ?_
  rintro X _ H Q E f cdv A outer s rfl hr ⟨K, p, k, c, rfl, le, pc, pen, q⟩
  have hu := hu_of hr
  have hk := le_era_none le
  obtain ⟨pl, hd⟩ := pen.obj
  refine ss_cons (PS.to (ps_par (i := 1) (j := 2) rfl S.nd rfl rfl (by decide) rfl rfl (pa_cons (pe_lst pa_nil) (pa_cons (pe_lst pa_nil) pa_nil)) rfl rfl) ⟨Nat.zero_le _, fun a ha => ⟨Nat.zero_le _, fun b hb => ⟨_, _, rfl, ?_⟩⟩⟩)
  have ab : b ≠ a := fun z => by subst z; rw [upd_same] at hb; cases hb
  have hb0 : H b = none := by rw [upd_ne ab] at hb; exact hb
  have ap : a ≠ p := fun z => by subst z; rw [hd] at ha; cases ha
  have bp : b ≠ p := fun z => by subst z; rw [hd] at hb0; cases hb0
  have ka : K a = none := le.fresh (by rw [era_ne ap]; exact ha)
  have kb : K b = none := le.fresh (by rw [era_ne bp]; exact hb0)
  have e2 : era (upd (upd H a (.lst [])) b (.lst [])) p = upd (upd (era H p) a (.lst [])) b (.lst []) := by rw [era_upd_ne bp, era_upd_ne ap]
  have eha : (era H p) a = none := by rw [era_ne ap]; exact ha
  have ehb : (era H p) b = none := by rw [era_ne bp]; exact hb0
  have n0 : Nxt K (era H p) K (era (upd (upd H a (.lst [])) b (.lst [])) p) := by
    rw [e2]
    exact ((Nxt.refl le).mut eha ka).mut ehb kb
  have hd0 : upd (upd H a (.lst [])) b (.lst []) p = some (.dK pl) := by rw [upd_ne (Ne.symm bp), upd_ne (Ne.symm ap)]; exact hd
  refine ss_cons (s_for (K := K) (r := rInt) (xs := rng 0 3) (g := gName 3) (passes_of rfl) rfl (pg_name (i := 3) S.nd rfl (Or.inl rfl)) (era_le n0.in_) (es_range1 T.bRange ev_int (by decide)) fun K1 H1 n1 => ?_)
  have m1 := n1.era hk hd0 rfl
  have hd1 := n1.same p _ hd0
  have ha1 : H1 a = some (lints []) := n1.same a _ (by rw [upd_ne (Ne.symm ab), upd_same]; rfl)
  have hb1 : H1 b = some (lints []) := n1.same b _ (by rw [upd_same]; rfl)
  have ka1 : K1 a = none := n1.out a (.lst []) (by rw [upd_ne (Ne.symm ab), upd_same]) rfl ka
  have kb1 : K1 b = none := n1.out b (.lst []) (by rw [upd_same]) rfl kb
  have pen1 : PenO H1 p c (k + 6) := by
    obtain ⟨b0, r0, h1, h3⟩ := pen
    exact ⟨b0, r0, hd1.trans (hd.symm.trans h1), h3⟩
  have la : ∀ {o : HO} {x : Addr} {l : List V}, o = .lst l → ∀ ob u, o ≠ .frz ob u := fun e ob u z => by rw [e] at z; cases z
  refine ⟨fun i σ' H' => ∃ K' lows highs kv, σ' = [some (.ref p), some (.ref a), some (.ref b), kv] ∧ Nxt K (era H p) K' (era H' p) ∧ Le K1 K' ∧ Lk H1 H' ∧ PenO H' p c (k + (6 - 2 * i)) ∧ H' a = some (lints lows) ∧ H' b = some (lints highs) ∧ K' a = none ∧ K' b = none ∧ lows.length = i ∧ highs.length = i ∧ ∀ j < i, In5 (lows.getD j 0) (highs.getD j 0), ?_, ?_, ?_, ?_⟩
  · exact ⟨K1, [], [], _, rfl, n0.trans m1, Le.refl _, Lk.refl _, pen1, ha1, hb1, ka1, kb1, rfl, rfl, fun j h => by omega⟩
  · rintro i σ' H' ⟨K', lows, highs, kv, _, n, l1, lk, _⟩
    exact ⟨l1.trans (era_le n.in_), lk⟩
  · rintro i z σ' H' x K3 H'' ez ⟨K', lows, highs, kv, rfl, n, l1, lk, pn, da, db, k'a, k'b, z1, z2, good⟩ n3 hx
    obtain rfl : x = .int z := hx
    obtain ⟨z0, z3⟩ := mem_rng.mp (List.mem_of_getElem? ez)
    have ei : z = (i : Int) ∧ i < 3 := by
      have hi : i < (rng 0 3).length := (List.getElem?_eq_some_iff.mp ez).1
      rw [rng_get hi] at ez
      have := Option.some.inj ez
      rw [rng_length] at hi
      exact ⟨by omega, by omega⟩
    obtain ⟨rfl, i3⟩ := ei
    obtain ⟨n3', l3⟩ := n3.wide l1 (era_le n.in_)
    refine gd_name (K := join K' K3) H'' n3'.in_ _ ?_
    have hdp := pn.obj
    obtain ⟨pl', hdp⟩ := hdp
    have da3 := n3'.same a _ da
    have db3 := n3'.same b _ db
    have ka3 := n3'.out a _ da rfl k'a
    have kb3 := n3'.out b _ db rfl k'b
    have nE := n.trans (n3'.era (le_era_none n.in_) hdp rfl)
    have pn3 : PenO H'' p c (k + (6 - 2 * i)) := pn.nxt n3'.same
    generalize join K' K3 = K4 at n3' nE pn3 ka3 kb3 l3
    -- low.append(draw)
    refine ss_cons (s_app (K := K4) n3'.in_ (ev_name 1 rfl rfl) da3 (by rw [List.length_map]; omega) fun K5 H5 n5 da5 => ?_)
    obtain ⟨pl3, hd3⟩ := pn3.obj
    have ka5 := n5.out a _ da3 rfl ka3
    have kb5 := n5.out b _ db3 rfl kb3
    have db5 := n5.same b _ db3
    have nE5 := nE.trans (n5.era (le_era_none nE.in_) hd3 rfl)
    have l15 : Le K1 K5 := (l1.trans n3'.le).trans n5.le
    have lk5 : Lk H1 H5 := (lk.trans n3'.lk).trans n5.lk
    refine w_draw (K := K5) (p := p) (m := 5) (k := k + (5 - 2 * i)) (c := c) Dd hr nE5.in_ (pc.mono nE5.le) ((pn3.nxt n5.same).less (by omega)) (ev_name 0 rfl rfl) ev_int (by omega) (by omega) fun v K6 H6 n6 pn6 v0 v5 => ?_
    have da6 : H6 a = some (lints lows) := by
      have := n6.same a _ (by rw [era_ne ap]; exact da5)
      rwa [era_ne ap] at this
    have db6 : H6 b = some (lints highs) := by
      have := n6.same b _ (by rw [era_ne bp]; exact db5)
      rwa [era_ne bp] at this
    have ka6 : K6 a = none := n6.out a _ (by rw [era_ne ap]; exact da5) rfl ka5
    have kb6 : K6 b = none := n6.out b _ (by rw [era_ne bp]; exact db5) rfl kb5
    refine ⟨da6, ?_⟩
    have nE6 := nE5.trans n6
    obtain ⟨pl5, hd5⟩ := (pn3.nxt n5.same).obj
    have lk6 : Lk H1 H6 := lk5.trans (lk_era n6.same hd5 pen_nf)
    have e7 : era (upd H6 a (.lst (lows.map V.int ++ [.int v]))) p = upd (era H6 p) a (.lst (lows.map V.int ++ [.int v])) := era_upd_ne ap
    have n7 : Nxt K (era H p) K6 (era (upd H6 a (.lst (lows.map V.int ++ [.int v]))) p) := by rw [e7]; exact nE6.mut eha ka6
    have pn7 : PenO (upd H6 a (.lst (lows.map V.int ++ [.int v]))) p c (k + (5 - 2 * i)) := pn6.put (Ne.symm ap)
    have db7 : upd H6 a (.lst (lows.map V.int ++ [.int v])) b = some (lints highs) := by rw [upd_ne ab]; exact db6
    have eL : lows.map V.int ++ [V.int v] = (lows ++ [v]).map V.int := by rw [List.map_append]; rfl
    rw [eL] at n7 pn7 db7 ⊢
    have da7 : upd H6 a (lints (lows ++ [v])) a = some (lints (lows ++ [v])) := upd_same
    have lk7 : Lk H1 (upd H6 a (lints (lows ++ [v]))) := lk_mut' lk6 ha1 (fun ob u z => nomatch z)
    generalize upd H6 a (lints (lows ++ [v])) = H7 at n7 pn7 db7 da7 lk7
    have leA : Le (upd K6 a (lints (lows ++ [v]))) H7 := le_put (H := H7) (le_era (era_le n7.in_) ka6) da7
    have rL : (rLst F rInt).r (upd K6 a (lints (lows ++ [v]))) (.ref a) (lows ++ [v]) := ⟨a, _, rfl, SqL.of upd_same, paired_of_int _⟩
    have gi : (lows ++ [v])[i]? = some v := by rw [← z1]; simp
    have lowE : ∀ {K' : Hp}, Le (upd K6 a (lints (lows ++ [v]))) K' → (rLst F rInt).r K' (.ref a) (lows ++ [v]) := fun l => (rLst F rInt).mono l rL
    -- high.append(low[k] + 1 + draw)
    refine ss_one (s_app (K := upd K6 a (lints (lows ++ [v]))) leA (ev_name 2 rfl rfl) db7 (by rw [List.length_map]; omega) fun K8 H8 n8 db8 => ?_)
    refine PE.to (pe_op op_add (peW _) (peW _)) ((ev_add (ev_itL (l := lows ++ [v]) (j := i) (ev_name 1 rfl (lowE n8.le)) (ev_name 3 rfl rfl) gi) ev_int) H8 n8.in_ _ fun u K9 H9 n9 hu9 => ?_)
    obtain rfl : u = .int (v + 1) := hu9
    have n79 := n8.trans n9
    have n7a : Nxt K6 H7 (era K9 a) H9 := n79.unput' ka6
    have hkp : upd K6 a (lints (lows ++ [v])) p = none := by rw [upd_ne (Ne.symm ap)]; exact le_era_none n7.in_
    obtain ⟨pl7, hd7⟩ := pn7.obj
    have n79E := n79.era hkp hd7 rfl
    have kb9 : K9 b = none := n79.out b _ db7 rfl (by rw [upd_ne ab]; exact kb6)
    refine w_draw (K := K9) (p := p) (m := 5 - v) (k := k + (4 - 2 * i)) (c := c) Dd hr n79E.in_ ((pc.mono n7.le).mono ((le_put0 ka6).trans n79.le)) ((pn7.nxt n79.same).less (by omega)) (ev_name 0 rfl rfl) (ev_sub ev_int (ev_itL (l := lows ++ [v]) (j := i) (ev_name 1 rfl (lowE n79.le)) (ev_name 3 rfl rfl) gi)) (by omega) (by omega) fun v2 KA HA nA pnA v20 v25 => ?_
    refine ⟨v + 1, v2, rfl, rfl, ?_⟩
    have nB := n79E.trans nA
    have nBu : Nxt K6 (era H7 p) (era KA a) (era HA p) := nB.unput' ka6
    have daA : HA a = some (lints (lows ++ [v])) := by
      have := nB.same a _ (by rw [era_ne ap]; exact da7)
      rwa [era_ne ap] at this
    have dbA : HA b = some (lints highs) := by
      have := nB.same b _ (by rw [era_ne bp]; exact db7)
      rwa [era_ne bp] at this
    have kbA : era KA a b = none := by
      rw [era_ne ab]
      exact nA.out b _ (by rw [era_ne bp]; exact n79.same b _ db7) rfl kb9
    refine ⟨dbA, ?_⟩
    have nT := n7.trans nBu
    have eH : highs.map V.int ++ [V.int (v + 1 + v2)] = (highs ++ [v + 1 + v2]).map V.int := by rw [List.map_append]; rfl
    obtain ⟨pl9, hd9⟩ := (pn7.nxt n79.same).obj
    rw [eH]
    refine ⟨era KA a, lows ++ [v], highs ++ [v + 1 + v2], _, rfl, ?_, l15.trans (n6.le.trans nBu.le), ?_, ?_, ?_, upd_same, era_self, kbA, by rw [List.length_append, z1]; rfl, by rw [List.length_append, z2]; rfl, fun j hj => ?_⟩
    · rw [era_upd_ne bp]; exact nT.mut ehb kbA
    · exact lk_mut' ((lk7.trans n79.lk).trans (lk_era nA.same hd9 pen_nf)) hb1 (fun ob u z => nomatch z)
    · exact (pnA.put (Ne.symm bp)).less (by omega)
    · rw [upd_ne (Ne.symm ab)]; exact daA
    · rcases Nat.lt_or_ge j i with h | h
      · have := good j h
        rw [getD_app (by omega), getD_app (by omega)]
        exact this
      · have e1 : (lows ++ [v]).getD j 0 = v := by rw [show j = lows.length by omega]; exact getD_last
        have e2 : (highs ++ [v + 1 + v2]).getD j 0 = v + 1 + v2 := by rw [show j = highs.length by omega]; exact getD_last
        rw [e1, e2]
        exact ⟨v0, by omega, by omega⟩
  · rintro σ' H' ⟨K', lows, highs, kv, rfl, n, l1, lk, pn, da, db, k'a, k'b, z1, z2, good⟩
    have z1 : lows.length = 3 := z1
    have z2 : highs.length = 3 := z2
    match lows, highs, z1, z2 with
    | [a0, a1, a2], [b0, b1, b2], _, _ =>
      have leA : Le (upd K' a (lints [a0, a1, a2])) H' := le_put (le_era (era_le n.in_) k'a) da
      have kb' : upd K' a (lints [a0, a1, a2]) b = none := by rw [upd_ne ab]; exact k'b
      have leB : Le (upd (upd K' a (lints [a0, a1, a2])) b (lints [b0, b1, b2])) H' := le_put (le_era leA kb') db
      refine ss_one (s_ret (r := rBox) (a := ((a0, a1, a2), (b0, b1, b2))) leB (ev_box (ev_tupleC T.bTuple (ev_name 1 rfl ⟨a, _, rfl, SqL.of (by rw [upd_ne (Ne.symm ab), upd_same]), paired_of_int _⟩)) (ev_tupleC T.bTuple (ev_name 2 rfl ⟨b, _, rfl, SqL.of upd_same, paired_of_int _⟩))) fun v K9 H9 n9 hv => ?_)
      have u1 := n9.unput' kb'
      have u2 := u1.unput' k'a
      obtain ⟨plz, hdz⟩ := pn.obj
      have cb : co K9 b = some (lints [b0, b1, b2]) := n9.le b _ (co_lst.mpr upd_same)
      have ca : co (era K9 b) a = some (lints [a0, a1, a2]) := u1.le a _ (co_lst.mpr upd_same)
      exact q v _ (era (era K9 b) a) H9 (n.trans (u2.era (le_era_none n.in_) hdz rfl)) ((pn.nxt n9.same).less (by omega)) (rBox_era (rBox_era hv cb) ca) ⟨good 0 (by decide), good 1 (by decide), good 2 (by decide)⟩
end
end SN
end TQBX

section TQLC
set_option Elab.async false
set_option linter.all false
set_option maxRecDepth 100000
set_option maxHeartbeats 4000017
/-! QLC: _law_pen, _law_pick, _law_cells. -/
namespace SN
open PySem PySem.Spec PyProof.Rows L2 NdefX
section
variable {X : Cx} {α : Type} {σ : L2.St} {K H : Hp} {r : Rel α}
theorem cut_to (vs : List V) (n : Nat) : cutV vs none (some (n : Int)) = vs.take n := by
  unfold cutV
  rw [HT.sIx_nat, HT.sIx_none, List.drop_zero, Nat.sub_zero]
  by_cases h : n ≤ vs.length
  · rw [Nat.min_eq_left h]
  · rw [Nat.min_eq_right (by omega), List.take_of_length_le (Nat.le_refl _), List.take_of_length_le (by omega)]
theorem ev_takeL {e i : Expr} {p2 pos : Pos} {l : List α} {n : Nat} (h : EV X e σ K (rLst X.K r) l) (hi : EV X i σ K rInt (n : Int)) : EV X (.Subscript e (.Slice none (some i) none p2) pos) σ K (rLst X.K r) (l.take n) := fun H le Q q =>
  PE.to (pe_slice sl_list (peW e) po_none (po_some (peW i))) (h H le _ fun v K1 H1 n1 ⟨p, vs, e1, h1, h2⟩ => hi.mono n1.le H1 n1.in_ _ fun u K2 H2 n2 hu => by
    refine ⟨(n : Int), hu, p, vs, e1, le_L (n2.le.trans n2.in_) h1, fun z hz => ?_⟩
    refine q _ _ _ ((n1.trans n2).trans (.new n2.in_ hz)) ⟨z, _, rfl, SqL.of upd_same, ?_⟩
    rw [cut_to vs n]
    exact Paired.take n (Paired.imp (fun _ _ z => r.mono (n2.le.trans (le_new' (n2.in_.fresh hz))) z) h2))
theorem ev_listOfL {e : Expr} {p pos : Pos} {l : List α} (hm : X.mg "list" = none) (h : EV X e σ K (rLst X.K r) l) (hg : Gl X "list" := by rfl) (he : starEach [e] X.env = (false, eval e X.env) :: starEach [] X.env := by rfl) (hpl : (backTo pos (starEach [] X.env)).any (·.1) = false := by rfl) : EV X (.Call (.Name "list" p) [e] [] pos) σ K (rLst X.K r) l :=
  ev_callTy call_list_of hm (by decide +kernel) (ea_1 h he) (fun vs K1 H1 Q _ l ⟨v, _, e1, ⟨p, ws, e2, h1, h2⟩, e3⟩ q => by
    subst e3; subst e1; subst e2
    exact ⟨p, ws, rfl, .inl (le_L l h1), fun z hz => q _ _ _ (.new l hz) ⟨z, ws, rfl, SqL.of upd_same, Paired.imp (fun _ _ y => r.mono (le_new' (l.fresh hz)) y) h2⟩⟩) hg (by decide) (by decide) he hpl
end
theorem pen_new {pc : Addr} {b r : Int} : mergeK [] (penL pc b r) = penL pc b r := by
  have h1 : ∀ v, putK ([] : List (Key × V)) (Sum.inr ("cells" : Str) : Key) v = [((Sum.inr ("cells" : Str) : Key), v)] := fun v => rfl
  have h2 : ∀ u v, putK ([((Sum.inr ("cells" : Str) : Key), u)] : List (Key × V)) (Sum.inr ("begun" : Str) : Key) v = [((Sum.inr ("cells" : Str) : Key), u), ((Sum.inr ("begun" : Str) : Key), v)] := fun u v => by
    unfold putK
    rw [if_neg]; · rfl
    · simp only [List.any_cons, List.any_nil, decide_eq_false k_cb, Bool.or_false]; exact Bool.false_ne_true
  have h3 : ∀ u v z, putK ([((Sum.inr ("cells" : Str) : Key), u), ((Sum.inr ("begun" : Str) : Key), v)] : List (Key × V)) (Sum.inr ("rest" : Str) : Key) z = [((Sum.inr ("cells" : Str) : Key), u), ((Sum.inr ("begun" : Str) : Key), v), ((Sum.inr ("rest" : Str) : Key), z)] := fun u v z => by
    unfold putK
    rw [if_neg]; · rfl
    · simp only [List.any_cons, List.any_nil, decide_eq_false k_cr, decide_eq_false k_br, Bool.or_false]; exact Bool.false_ne_true
  show putK (putK (putK ([] : List (Key × V)) (Sum.inr ("cells" : Str) : Key) (.ref pc)) (Sum.inr ("begun" : Str) : Key) (.int b)) (Sum.inr ("rest" : Str) : Key) (.int r) = _
  rw [h1, h2, h3]
def spPenNew (F : PySem.W.Frag) : Sp := fun vs H Q _ => ∃ K v cells, vs = [v] ∧ Le K H ∧ (rLst F rInt).r K v cells ∧ ∀ p K' H' c, H p = none → Nxt K H K' (era H' p) → PenK F K' c → PenO H' p c 90000 → Q (.ref p) H'
abbrev stPen : Stmt := top 60
abbrev stPick : Stmt := top 62
abbrev stCells : Stmt := top 64
section
variable {P : Program} {w : World} {F : PySem.W.Frag} {mg : Str → Option Value} {base : Heap}
theorem df_pen (T : TX w F mg) (G : FnF F mg "_law_pen" stPen ["_law_script"]) : Df P w F mg base 1 "_law_pen" (spPenNew F) := by
  have S : FnScope ["_law_script"] ["_law_script"] (defScope stPen) := ⟨rfl, rfl, rfl, by decide +kernel, rfl, by decide +kernel, by decide +kernel⟩
  refine df_fn (N := ["_law_script"]) G S (fun vs H Q E ⟨K, v, c, e, _⟩ => by rw [e]; rfl) ?_
  rintro X _ H Q E f cdv A outer s rfl hr ⟨K, v, cells, rfl, le, hv, q⟩
  refine ss_one (PS.to (ps_ret (pe_disp (pps_cons (peW _) (peW _) (pps_cons (peW _) (peW _) (pps_cons (peW _) (peW _) pps_nil))) rfl rfl (fun z => by cases z) (by decide))) fun p hp => ?_)
  have hk : K p = none := le.fresh hp
  have lp : Le K (upd H p (.dK [])) := le_mut le hk
  refine ev_str (K := K) _ lp _ fun v1 K1 H1 n1 hv1 => ?_
  have h0 : ∀ pos, EV (cxD P w F mg base ["_law_script"] "_law_pen" stPen f cdv A outer s H E) (.Name "_law_script" pos) (start ["_law_script"] [v]) K1 (rLst F rInt) cells := fun pos => ev_name 0 rfl ((rLst F rInt).mono n1.le hv)
  refine (ev_listOfL (X := cxD P w F mg base ["_law_script"] "_law_pen" stPen f cdv A outer s H E) (l := cells.take 63) (r := rInt) T.bList (ev_takeL (n := 63) (l := cells) (h0 _) ev_int)) H1 n1.in_ _ fun v2 K2 H2 n2 hv2 => ?_
  refine ev_str (K := K2) _ n2.in_ _ fun v3 K3 H3 n3 hv3 => ?_
  refine ev_int (K := K3) _ n3.in_ _ fun v4 K4 H4 n4 hv4 => ?_
  refine ev_str (K := K4) _ n4.in_ _ fun v5 K5 H5 n5 hv5 => ?_
  refine ev_int (K := K5) _ n5.in_ _ fun v6 K6 H6 n6 hv6 => ?_
  obtain rfl : v1 = .str "cells" := hv1
  obtain rfl : v3 = .str "begun" := hv3
  obtain rfl : v4 = .int 0 := hv4
  obtain rfl : v5 = .str "rest" := hv5
  obtain rfl : v6 = .int 0 := hv6
  obtain ⟨pc, ws, rfl, g1, g2⟩ := id hv2
  have n := ((((n1.trans n2).trans n3).trans n4).trans n5).trans n6
  have d6 : H6 p = some (.dK []) := n.same p _ upd_same
  refine ⟨d6, penL pc 0 0, rfl, by show 3 ≤ 15; decide, ?_⟩
  rw [pen_new]
  have nE := n.era hk upd_same rfl
  rw [era_upd, era_none hp] at nE
  refine q p K6 _ (pc, cells.take 63) hp (by rw [era_upd]; exact nE) ⟨(rLst F rInt).mono (((n3.trans n4).trans n5).trans n6).le hv2, by rw [List.length_take]; exact Nat.min_le_left _ _⟩ ⟨0, 0, upd_same, by omega, by omega, by omega⟩
def spPick (F : PySem.W.Frag) : Sp := fun vs H Q _ => ∃ K p v k c opts, vs = [.ref p, v] ∧ Le K (era H p) ∧ PenK F K c ∧ PenO H p c (k + 1) ∧ (rLst F rInt).r K v opts ∧ 1 ≤ opts.length ∧ opts.length ≤ 1000 ∧ ∀ z K' H', Nxt K (era H p) K' (era H' p) → PenO H' p c k → z ∈ opts → Q (.int z) H'
theorem df_pick (T : TX w F mg) (Dd : Df P w F mg base 1 "_law_draw" (spDraw F)) (G : FnF F mg "_law_pick" stPick ["_law_pen_here", "_law_options"]) : Df P w F mg base 2 "_law_pick" (spPick F) := by
  have S : FnScope ["_law_pen_here", "_law_options"] ["_law_pen_here", "_law_options"] (defScope stPick) := ⟨rfl, rfl, rfl, by decide +kernel, rfl, by decide +kernel, by decide +kernel⟩
  refine df_fn (N := ["_law_pen_here", "_law_options"]) G S (fun vs H Q E ⟨K, p, v, k, c, o, e, _⟩ => by rw [e]; rfl) ?_
  rintro X _ H Q E f cdv A outer s rfl hr ⟨K, p, v, k, c, opts, rfl, le, pc, pen, hv, o1, o2, q⟩
  refine ss_one (PS.to (ps_ret (pe_ix ix_list (peW _) (peW _) (by exact fun _ _ => rfl))) ?_)
  have h0 : ∀ pos, EV (cxD P w F mg base ["_law_pen_here", "_law_options"] "_law_pick" stPick f cdv A outer s H E) (.Name "_law_options" pos) (start ["_law_pen_here", "_law_options"] [.ref p, v]) K (rLst F rInt) opts := fun pos => ev_name 1 rfl hv
  refine h0 _ H (era_le le) _ fun u K1 H1 n1 hu => ?_
  obtain ⟨pl, hd⟩ := pen.obj
  have nE := n1.era (le_era_none le) hd rfl
  refine w_draw (K := K1) (p := p) (m := opts.length) (k := k) (c := c) Dd hr nE.in_ (pc.mono n1.le) (pen.nxt n1.same) (ev_name 0 rfl rfl) (ev_lenL (l := opts) T.bLen (ev_name 1 rfl ((rLst F rInt).mono n1.le hv))) (by omega) (by omega) fun z K2 H2 n2 pen2 z0 z1 => ?_
  obtain ⟨a, xs, rfl, g1, g2⟩ := hu
  have hz : z.toNat < opts.length := by omega
  obtain ⟨y, y1, y2⟩ := paired_get g2 (List.getElem?_eq_getElem hz)
  refine ⟨a, xs, z, y, rfl, rfl, le_L (n2.le.trans (era_le n2.in_)) g1, ?_, ?_⟩
  · have := atI_nat y1
    rwa [← nat_of z0] at this
  · obtain rfl : y = .int opts[z.toNat] := y2
    exact q _ K2 H2 (nE.trans n2) pen2 (List.getElem_mem hz)
/-! ### the cells of a box -/
def lawE (b : Box) : List (Cell × Bool) := (rng b.1.1 b.2.1).flatMap fun x => (rng b.1.2.1 b.2.2.1).flatMap fun y => (rng b.1.2.2 b.2.2.2).flatMap fun z => [((x, y, z), true)]
def lawC (b : Box) : Cells := dputs [] (lawE b)
theorem lawE_len {b : Box} (g : GoodB b) : (lawE b).length ≤ 125 := by
  have l : ∀ {lo hi : Int}, In5 lo hi → (rng lo hi).length ≤ 5 := fun h => by rw [rng_length]; obtain ⟨a, b, c⟩ := h; omega
  have h1 := flat_len (fun x => (rng b.1.2.1 b.2.2.1).flatMap fun y => (rng b.1.2.2 b.2.2.2).flatMap fun z => [((x, y, z), true)]) 25 (rng b.1.1 b.2.1) fun x _ => by
    have h2 := flat_len (fun y => (rng b.1.2.2 b.2.2.2).flatMap fun z => [((x, y, z), true)]) 5 (rng b.1.2.1 b.2.2.1) fun y _ => by
      have h3 := flat_len (fun z => [((x, y, z), true)]) 1 (rng b.1.2.2 b.2.2.2) fun z _ => Nat.le_refl _
      have := l g.z
      omega
    have := l g.y
    omega
  have := l g.x
  unfold lawE
  omega
abbrev NCells : List Str := ["_law_box_here", "_law_low", "_law_high", "_law_found", "_law_x", "_law_y", "_law_z"]
theorem df_cells (T : TX w F mg) (G : FnF F mg "_law_cells" stCells ["_law_box_here"]) : Df P w F mg base 1 "_law_cells" (sp1 rBox (rDC rBl) GoodB lawC) := by
  have S : FnScope NCells ["_law_box_here"] (defScope stCells) := ⟨rfl, rfl, rfl, by decide +kernel, rfl, by decide +kernel, by decide +kernel⟩
  refine df_fn (N := NCells) G S (fun vs H Q E ⟨K, v, a, e, _⟩ => by rw [e]; rfl) ?_
  rintro X _ H Q E f cdv A outer s rfl hr ⟨K, vb, b, rfl, le, h1, g, q⟩
  have hu := hu_of hr
  obtain ⟨gx, gy, gz⟩ := id g
  have rz : ∀ {lo hi : Int}, In5 lo hi → -(2 ^ 62) ≤ lo ∧ lo < 2 ^ 62 ∧ -(2 ^ 62) ≤ hi ∧ hi < 2 ^ 62 := fun h => by obtain ⟨a, b, c⟩ := h; omega
  refine ss_cons (s_asgG (g := gt2 F 1 2) (r := rBox) (a := b) (pg_n2 1 2 rfl S.nd rfl rfl (Or.inl rfl) (Or.inl rfl) (Or.inl rfl) (Or.inl rfl)) le (ev_name 0 rfl h1) fun v K1 H1 n1 hv => ?_)
  obtain ⟨pb, x1, x2, rfl, hpb, hx1, hx2⟩ := hv
  refine gd_tup2 (SqT.of (co_tup.mp hpb)) gd_name gd_name H1 n1.in_ _ ?_
  refine ss_cons (s_newT (i := 3) S.nd rfl (Or.inl rfl) fun p hp => ?_)
  have nE : era (upd H1 p (.dT [])) p = H1 := by rw [era_upd, era_none hp]
  refine ss_sd (bs := lawE b) (ys := []) (F := fillDC rBl) (Sg := fun σ => ∃ a b c, σ = [some vb, some x1, some x2, some (.ref p), a, b, c]) (sd_for (K := K1) (r := rInt) (xs := rng b.1.1 b.2.1) (em := fun x => (rng b.1.2.1 b.2.2.1).flatMap fun y => (rng b.1.2.2 b.2.2.2).flatMap fun z => [((x, y, z), true)]) (g := gName 4) (passes_of rfl) rfl (pg_name (i := 4) S.nd rfl (Or.inl rfl)) ⟨_, _, _, rfl⟩ (es_range2 T.bRange (ev_cix (j := 0) (ev_name 1 rfl hx1) ev_int (by decide)) (ev_cix (j := 0) (ev_name 2 rfl hx2) ev_int (by decide)) (rz gx)) ?_) (by rw [nE]; exact n1.in_) upd_same ((fillDC rBl).nil K1) (by have := lawE_len g; simp only [List.length_nil, sz]; omega) fun σ3 K4 H4 o3 sg n4 e3 ob3 => ?_
  · rintro i x σ' K4 vx ea ⟨a1, a2, a3, rfl⟩ l4 hx
    have y1 := rCell.mono l4 hx1
    have y2 := rCell.mono l4 hx2
    refine ⟨_, gd_name, sd_one (SD1.imp (Sg := fun σ => ∃ b c, σ = [some vb, some x1, some x2, some (.ref p), some vx, b, c]) (sd_for (r := rInt) (xs := rng b.1.2.1 b.2.2.1) (em := fun y => (rng b.1.2.2 b.2.2.2).flatMap fun z => [((x, y, z), true)]) (g := gName 5) (passes_of rfl) rfl (pg_name (i := 5) S.nd rfl (Or.inl rfl)) ⟨_, _, rfl⟩ (es_range2 T.bRange (ev_cix (j := 1) (ev_name 1 rfl y1) ev_int (by decide)) (ev_cix (j := 1) (ev_name 2 rfl y2) ev_int (by decide)) (rz gy)) ?_) fun σ2 ⟨b, c, e⟩ => ⟨_, b, c, e⟩)⟩
    rintro i2 y σ2 K5 vy eb ⟨b2, b3, rfl⟩ l5 hy
    have z1 := rCell.mono l5 y1
    have z2 := rCell.mono l5 y2
    refine ⟨_, gd_name, sd_one (SD1.imp (Sg := fun σ => ∃ c, σ = [some vb, some x1, some x2, some (.ref p), some vx, some vy, c]) (sd_for (r := rInt) (xs := rng b.1.2.2 b.2.2.2) (em := fun z => [((x, y, z), true)]) (g := gName 6) (passes_of rfl) rfl (pg_name (i := 6) S.nd rfl (Or.inl rfl)) ⟨_, rfl⟩ (es_range2 T.bRange (ev_cix (j := 2) (ev_name 1 rfl z1) ev_int (by decide)) (ev_cix (j := 2) (ev_name 2 rfl z2) ev_int (by decide)) (rz gz)) ?_) fun σ2 ⟨c, e⟩ => ⟨_, c, e⟩)⟩
    rintro i3 z σ3 K6 vz ec ⟨c3, rfl⟩ l6 hz
    exact ⟨_, gd_name, sd_one (sd_dputC hu ⟨_, rfl⟩ ev_bl (ev_name 3 rfl rfl) (ev_cell (ev_name 4 rfl (rInt.mono l6 (rInt.mono l5 hx))) (ev_name 5 rfl (rInt.mono l6 hy)) (ev_name 6 rfl hz)))⟩
  · have hk := le_era_none n4.in_
    rw [nE] at n4
    obtain ⟨c1, c2, c3, rfl⟩ := sg
    exact ss_one (s_ret (n4.pubE e3).in_ (ev_name (r := rDC rBl) (a := lawC b) (v := .ref p) 3 rfl (fin_dC (by simpa using ob3) hk)) fun v K' H' n hv => q _ K' H' ((n1.trans (n4.pubE e3)).trans n) hv)
end
end SN
end TQLC

section TQDC
set_option Elab.async false
set_option linter.all false
set_option maxRecDepth 100000
set_option maxHeartbeats 4000017
/-! QDC: d.update(d2), dict(pairs), d == {} with cells as keys. -/
namespace SN
open PySem PySem.Spec PyProof.Rows L2 NdefX
section
variable {prog : Program} {w : World} {κ : Type} [DecidableEq κ] {knd : HeapKind prog w κ} {A : Around} {E : Value → Shared → Prop} {s : Shared}
theorem samePairs_less {nm : String} {a b : Addr} {xs ys : List (κ × Addr × Value)} {Q : Bool → Shared → Prop} (ha : (a == sysModules) = false) (hb : (b == sysModules) = false) (da : s.heap.DictOfH knd a xs) (db : s.heap.DictOfH knd b ys) (hl : xs.length ≠ ys.length) (h : Q false s) :
    wpAny (model prog w) A (Builtin.Dict.samePairs nm a b) Q E s := by
  obtain ⟨oa, es, ep, hoa, _, hda, ena, alla, nda⟩ := da
  obtain ⟨ob, es', ep', hob, _, hdb, enb, allb, ndb⟩ := db
  have hla : es.size = xs.length := by have := congrArg List.length ena; simpa using this
  have hlb : es'.size = ys.length := by have := congrArg List.length enb; simpa using this
  unfold Builtin.Dict.samePairs Builtin.Dict.showsAll
  rw [if_neg (show ¬ (a == sysModules) = true by rw [ha]; exact Bool.false_ne_true), if_neg (show ¬ (b == sysModules) = true by rw [hb]; exact Bool.false_ne_true)]
  refine wpAny_bind (wpAny_pure (wpAny_bind (wpAny_pure ?_)))
  refine wpAny_bind (wpAny_dictEntries hoa hda ?_)
  dsimp only
  refine wpAny_bind (wpAny_dictEntries hob hdb ?_)
  rw [if_pos (by rw [hla, hlb]; simpa using hl)]
  exact wpAny_bind (wpAny_rule (wpAny_pure h))
theorem rc_dictE {a b : Addr} {xs : List (κ × Addr × Value)} {Q : Value → Shared → Prop} (hu : A.units < cLine) (hk : knd.room A.in1) (ha : (a == sysModules) = false) (hb : (b == sysModules) = false) (da : s.heap.DictOfH knd a xs) (db : s.heap.DictOfH knd b []) (h : Q (.bool xs.isEmpty) s) : wpAny (model prog w) A (richCompare .Eq (.ref a) (.ref b)) Q E s := by
  have ta : s.TypeIs (.ref a) "dict" := by obtain ⟨o, es, ep, h1, h2, _⟩ := da; exact ⟨o, h1, h2.1⟩
  have tb : s.TypeIs (.ref b) "dict" := by obtain ⟨o, es, ep, h1, h2, _⟩ := db; exact ⟨o, h1, h2.1⟩
  refine wpAny_richCompare_same_room (op := .Eq) ta tb PySem.F.slot_dict_eq (wpAny_call_entry PySem.F.slot_dict_eq ta PySem.F.entry_dict_eq ?_ (PySem.F.args_dict_eq_2 _ _)) hu
  show wpAny _ _ (Builtin.Dict.dictSlotArgs "__eq__" ⟨[.ref a, .ref b], []⟩ >>= _) _ _ s
  refine wpAny_bind ?_
  unfold Builtin.Dict.dictSlotArgs
  refine wpAny_bind (wpAny_notOrdered_dict ta ?_)
  show wpAny _ _ (pure (Value.ref a, Value.ref b)) _ _ s
  refine wpAny_pure ?_
  refine wpAny_bind (wpAny_isInstance (T := "dict") tb PySem.F.sub_dict_dict ?_)
  simp only [Bool.not_true, Bool.false_eq_true, if_false]
  refine wpAny_bind (wpAny_pure (wpAny_bind (wpAny_pure ?_)))
  cases xs with
  | nil =>
    refine wpAny_bind (samePairsH hk ha hb da db rfl (fun x hx => by cases hx) ?_)
    refine wpAny_pure ⟨_, rfl, ?_, ?_⟩
    · exact fun x => nomatch x
    · exact h
  | cons x xs =>
    refine wpAny_bind (samePairs_less ha hb da db (by simp) ?_)
    refine wpAny_pure ⟨_, rfl, ?_, ?_⟩
    · exact fun x => nomatch x
    · exact h
end
section
variable {X : Cx} {α : Type} {σ : L2.St} {K H : Hp}
theorem op_eqE (hu : X.A.units + 16 < cLine) : OpR X (compareOp .Eq) (fun x y H Q => ∃ a b kvs, x = .ref a ∧ y = .ref b ∧ Rd H a (.dT kvs) ∧ Rd H b (.dT []) ∧ Q (.bl kvs.isEmpty) H) := by
  rintro pins s σ H x y v u Q I rx ry ⟨a, b, kvs, rfl, rfl, ha, hb, q⟩
  cases rx
  cases ry
  obtain ⟨z1, lo1, xs, kt1, m1⟩ := dt_rd I.hok ha
  obtain ⟨z2, lo2, ys, kt2, m2⟩ := dt_rd I.hok hb
  cases kt2
  have e : kvs.isEmpty = xs.isEmpty := by
    have := Paired.length kt1
    cases kvs <;> cases xs <;> first | rfl | (simp at this; done)
  rw [e] at q
  exact rc_dictE (by omega) (show X.A.units + 1 < cLine by omega) lo1 lo2 m1 m2 ⟨.bl xs.isEmpty, H, I, rfl, q⟩
theorem et_eqE {e : Expr} {p2 pos : Pos} {a : Addr} {kvs : List (List Key × V)} (hu : X.A.units + 16 < cLine) (h : EV X e σ K rVal (.ref a)) (ha : co K a = some (.dT kvs)) : ET X (.Compare e [.Eq] [.Dict [] [] p2] pos) σ K kvs.isEmpty :=
  et_cmp (r1 := rVal) (x := .ref a) (r2 := rDC rBl) (y := []) (op_eqE hu) rfl h ev_newC fun K1 H1 u v Q l0 l hu ⟨b, kv2, e2, hb, hp⟩ q => by
    obtain rfl : u = .ref a := hu
    subst e2
    cases hp
    exact ⟨a, b, kvs, rfl, rfl, co_dT.mp ((l0.trans l) a _ ha), co_dT.mp (l b _ hb), q _ K1 H1 (.refl l) rfl⟩
/-- d.update(d2) -/
def rUpd (P : Program) (w : World) : V → List V → Hp → VK → Prop := fun x vs H Q => ∃ d b kvs more, x = .ref d ∧ vs = [.ref b] ∧ H d = some (.dT kvs) ∧ Rd H b (.dT more) ∧ d ≠ b ∧ kvs.length + more.length ≤ sz ∧ (more.map fun kv => (tupleKind (mixKind P w)).hash kv.1).Nodup ∧ Q .non (upd H d (.dT (mergeT kvs more)))
theorem mt_updT (hu : X.A.units + 16 < cLine) : MtM X "dict.update" (rUpd X.prog X.w) := by
  rintro pins s σ H x vs v us Q I rx rv ⟨d, b, kvs, more, rfl, rfl, e, e2, ne, hz, ap, q⟩
  cases rx
  obtain rfl := Vals.ref1 rv
  have e3 : (1000000 : Nat) < sizeLine := by decide
  simp only [sz] at hz
  obtain ⟨z1, hd, xs, rel, dd⟩ := dt_of I.hok e
  obtain ⟨z2, hb, ys, rel2, db⟩ := dt_rd I.hok e2
  have lx : xs.length = kvs.length := (Paired.length rel).symm
  have ly : ys.length = more.length := (Paired.length rel2).symm
  have ty : ∀ x ∈ ys, s.TypeIs (.ref x.2.1) "tuple" := fun x hx => by
    obtain ⟨_, _, _, _, _, _, _, all, _⟩ := id db
    obtain ⟨o, its, n, h1, h2, _⟩ := all x hx
    exact ⟨o, h1, h2⟩
  have hh : (more.map fun kv => (tupleKind (mixKind X.prog X.w)).hash kv.1) = ys.map fun x => (tupleKind (mixKind X.prog X.w)).hash x.1 := by
    clear z2 db ly ty ap hz e2 q
    unfold KT at rel2
    induction rel2 with
    | nil => rfl
    | cons p _ ih => rw [List.map_cons, List.map_cons, ih, p.1]
  refine call_update_dictH (show X.A.units + 1 < cLine by omega) ne hb dd db (.inr ⟨ty, hh ▸ ap⟩) (by omega) fun h' dd' _ sb => ?_
  obtain ⟨o, es, ep, hq, h2, h3, h4, _, h5⟩ := dd'
  have hl : (mergeT kvs more).length ≤ sizeLine := Nat.le_trans (mergeT_len more kvs) (by omega)
  refine ⟨.non, _, d_write (ob := .dT (mergeT kvs more)) (t' := s.toks) I (by rw [e]; exact True.intro) sb ⟨o, hq⟩ ⟨hl, hd, _, (kt_mergeT rel2 rel).keeps fun c ys ec => ?_, o, es, ep, hq, h2, h3, h4, h5⟩, rfl, q⟩
  rw [upd_ne (ne_of ec e (fun z => nomatch z))]
  exact ec
end
/-! ### dict(pairs) -/
section
variable {X : Cx} {pins : List (Addr × Obj)} {σ : L2.St} {H K : Hp} {s : Shared}
theorem pairs_of (I : Inv X pins σ H s) (le : Le K H) : ∀ {vs : List V} {its : List Value} {l : List (Cell × Bool)}, Vals vs its → Paired ((rTup2 X.K rCell rBl).r K) vs l →
    ∃ ts : List (Addr × Addr × Cell × Bool), its = ts.map (fun t => Value.ref t.1) ∧ l = ts.map (fun t => t.2.2) ∧ ∀ t ∈ ts, s.heap.IsTuple t.1 #[.ref t.2.1, .bool t.2.2.2] ∧ H t.2.1 = some (.tup ((ck t.2.2.1).map kV))
  | _, _, _, .nil, .nil => ⟨[], rfl, rfl, fun t ht => absurd ht (by simp)⟩
  | _, _, _, .cons r t, .cons q t2 => by
    obtain ⟨ts, e1, e2, h⟩ := pairs_of I le t t2
    obtain ⟨T, x, y, rfl, hT, ⟨b, rfl, hb⟩, hy⟩ := q
    obtain ⟨it2, r2, g, _⟩ := I.tuple (le_T le hT)
    obtain ⟨u1, u2, rfl, ra, rb⟩ := vals2 r2
    obtain rfl : u1 = .ref b := ra
    cases hy
    obtain rfl : u2 = .bool _ := rb
    cases r
    refine ⟨(T, b, _, _) :: ts, by rw [e1]; rfl, by rw [e2]; rfl, fun t ht => ?_⟩
    rcases List.mem_cons.mp ht with rfl | ht
    · exact ⟨g, co_tup.mp (le b _ hb)⟩
    · exact h t ht
end
theorem cr_dictP {X : Cx} (hc : X.calm = true) (hu : X.A.units + 16 < cLine) : CallR X (.type "dict") (fun vs H Q => ∃ K a vs0 l, vs = [.ref a] ∧ Le K H ∧ SqL X.K K a vs0 ∧ Paired ((rTup2 X.K rCell rBl).r K) vs0 l ∧ l.length ≤ sz ∧ ∀ p kvs, H p = none → Paired (fun (kv : List Key × V) (ka : Cell × Bool) => kv.1 = ck ka.1 ∧ kv.2 = .bl ka.2) kvs (dputs [] l) → Q (.ref p) (upd H p (.dT kvs))) := by
  intro pins s σ H vs us Q I r h
  obtain ⟨K, a, vs0, l, rfl, le, hs, hp, hz, q⟩ := h
  obtain rfl := Vals.ref1 r
  obtain ⟨its, rv, hl, _⟩ := I.list (le_L le hs)
  obtain ⟨ts, rfl, rfl, hT⟩ := pairs_of I le rv hp
  have e3 : (1000000 : Nat) < sizeLine := by decide
  simp only [sz, List.length_map] at hz
  let more : List (List Key × V) := ts.map fun t => (ck t.2.2.1, V.bl t.2.2.2)
  let ps : List (List Key × Addr × Value) := ts.map fun t => (ck t.2.2.1, t.2.1, Value.bool t.2.2.2)
  have kt : KT H more ps := by
    show Paired _ (ts.map _) (ts.map _)
    clear rv hp hl hs hz q
    induction ts with
    | nil => exact .nil
    | cons t ts ih => exact .cons ⟨rfl, (hT t (List.mem_cons_self ..)).2, rfl⟩ (ih fun u hu => hT u (List.mem_cons_of_mem _ hu))
  have pm : Paired (fun (kv : List Key × V) (ka : Cell × Bool) => kv.1 = ck ka.1 ∧ kv.2 = .bl ka.2) more (ts.map fun t => t.2.2) := by
    show Paired _ (ts.map _) (ts.map _)
    clear rv hp hl hs hz q kt hT
    induction ts with
    | nil => exact .nil
    | cons t ts ih => exact .cons ⟨rfl, rfl⟩ ih
  have pm2 := paired_mergeT (R := fun v b => v = V.bl b) pm (.nil : Paired (fun (kv : List Key × V) (ka : Cell × Bool) => kv.1 = ck ka.1 ∧ kv.2 = V.bl ka.2) [] [])
  let psV : List (Value × Value) := ts.map fun t => (Value.ref t.2.1, Value.bool t.2.2.2)
  let Ts : Nat → Addr := fun j => (ts.getD j (0, 0, (0, 0, 0), true)).1
  have zp : psV.length = ts.length := List.length_map _
  obtain ⟨o, n, ho, hco, hdo, hda⟩ : ∃ o n, s.heap.get? a = some o ∧ o.cls = .type "list" ∧ o.dict = none ∧ o.data = .seq (ts.map fun t => Value.ref t.1).toArray n := by
    exact hl
  have hit : PairItems s.heap (ts.map fun t => Value.ref t.1).toArray Ts psV := by
    refine ⟨by simp [psV], fun j k v hj => ?_⟩
    simp only [psV, List.getElem?_map] at hj
    cases ht : ts[j]? with
    | none => rw [ht] at hj; cases hj
    | some t =>
      rw [ht] at hj
      have hj := Option.some.inj hj
      obtain ⟨rfl, rfl⟩ := Prod.mk.inj hj
      have e1 : Ts j = t.1 := by simp [Ts, List.getD, ht]
      refine ⟨by rw [e1]; simp [ht], ?_⟩
      rw [e1]
      exact .inl (hT t (List.mem_of_getElem? ht)).1
  refine call_dict_pairsH (knd := tupleKind (mixKind X.prog X.w)) (ps := ps) (PairArg.list a _ Ts psV) (I.ok.hd hc) (show X.A.units + 1 + 1 < cLine by omega) ⟨⟨o, n, ho, hco, hdo, hda⟩, hit⟩ ⟨by simp [ps, psV], fun i key v hi => ?_⟩ (fun h' hk x hx => ?_) (by rw [zp]; omega) fun h' tk dd hk => ?_
  · have hi : psV[i]? = some (key, v) := hi
    simp only [psV, List.getElem?_map] at hi
    cases ht : ts[i]? with
    | none => rw [ht] at hi; cases hi
    | some t =>
      rw [ht] at hi
      have hi := Option.some.inj hi
      obtain ⟨rfl, rfl⟩ := Prod.mk.inj hi
      exact ⟨ck t.2.2.1, t.2.1, by simp [ps, ht], rfl⟩
  · obtain ⟨t, ht, rfl⟩ := List.mem_map.mp hx
    obtain ⟨_, its, r2, o2, h1, h2, n2, h3⟩ := I.hok t.2.1 _ (hT t ht).2
    exact ⟨o2, its.toArray, n2, hk _ o2 (Nat.ne_of_lt (Heap.lt_size h1)) (by simp) h1, h2, h3, by simpa using items_are r2⟩
  · have hp0 : H s.heap.objs.size = none := I.hok.fresh (Nat.le_refl _)
    obtain ⟨o3, es, ep, hq, h2, h3, h4, _, h5⟩ := dd
    have hl2 : (mergeT [] more).length ≤ sizeLine := Nat.le_trans (mergeT_len more []) (by simp only [more, List.length_map, List.length_nil]; omega)
    refine ⟨.ref s.heap.objs.size, upd H s.heap.objs.size (.dT (mergeT [] more)), I.laid (t' := tk) (fun b u e => hk b u (by simp) e) (Nat.le_refl _) ⟨hl2, ?_, _, (kt_mergeT kt (.nil : KT H [] [])).keeps fun c ys ec => ?_, o3, es, ep, hq, h2, h3, h4, h5⟩, rfl, q _ _ hp0 pm2⟩
    · exact beq_false_of_ne (Nat.ne_of_gt I.big)
    · rw [upd_ne (fun z => by subst z; rw [hp0] at ec; cases ec)]; exact ec
section
variable {X : Cx} {σ : L2.St} {K H : Hp}
/-- x = dict(e): a new dict at p, for the while not known -/
theorem s_dictP {e : Expr} {x : Str} {i : Nat} {p0 pos pos' pos2 : Pos} {l : List (Cell × Bool)} {D : Ends} (hc : X.calm = true) (hu : X.A.units + 16 < cLine) (hm : X.mg "dict" = none) (hN : X.N.Nodup) (hi : X.N[i]? = some x) (hx : Loc X.env.scope x) (le : Le K H) (h : EV X e σ K (rLst X.K (rTup2 X.K rCell rBl)) l) (hz : l.length ≤ sz)
    (k : ∀ K1 H1 p kvs, Nxt K H K1 H1 → H1 p = none → Paired (fun (kv : List Key × V) (ka : Cell × Bool) => kv.1 = ck ka.1 ∧ kv.2 = .bl ka.2) kvs (dputs [] l) → D.nx (σ.set i (some (.ref p))) (upd H1 p (.dT kvs)))
    (hg : Gl X "dict" := by rfl) (he : starEach [e] X.env = (false, eval e X.env) :: starEach [] X.env := by rfl) (hpl : (backTo pos2 (starEach [] X.env)).any (·.1) = false := by rfl)
    (hs : swapsWith (.Call (.Name "dict" p0) [e] [] pos2) (some (.Name x pos')) pos.line X.env = pure false := by rfl) (hf : X.fn x = true ∨ X.env.scope.names.lookup x = some .local := by first | exact .inl rfl | exact .inr rfl) : wS X (.Assign [.Name x pos'] (.Call (.Name "dict" p0) [e] [] pos2) pos) D σ H :=
  PS.to (ps_set hN hi hx (pe_callTy (cr_dictP hc hu) hg hm (by decide +kernel) (paW [e]) (by decide) (by decide) he hpl) hs hf) (ea_1 h he H le _ fun vs K1 H1 n ⟨v, _, e1, ⟨a, ws, e2, h1, h2⟩, e3⟩ => by
    subst e3; subst e2
    exact ⟨K1, a, ws, l, e1, n.in_, h1, h2, hz, fun p kvs hp hk => k K1 H1 p kvs n hp hk⟩)
/-- d.update(e): d is not known -/
theorem s_updT {ob e : Expr} {apos cpos pos : Pos} {d : Addr} {kvs : List (List Key × V)} {l : List (Cell × Bool)} {D : Ends} (hu : X.A.units + 16 < cLine) (le : Le K H) (hk : K d = none) (hd : H d = some (.dT kvs)) (ho : EV X ob σ K rVal (.ref d)) (h : EV X e σ K (rDC rBl) l) (hz : kvs.length + l.length ≤ sz) (hh : (l.map fun x => hashC X.prog X.w x.1).Nodup)
    (k : ∀ K1 H1 kvs2, Nxt K H K1 H1 → H1 d = some (.dT kvs) → Paired (fun (kv : List Key × V) (ka : Cell × Bool) => kv.1 = ck ka.1 ∧ kv.2 = .bl ka.2) kvs2 l → D.nx σ (upd H1 d (.dT (mergeT kvs kvs2))))
    (hbase : attributeBase ob "update" X.env (eval ob X.env) = eval ob X.env := by rfl)
    (hfew : ((backTo cpos (starEach [e] X.env)).all (fun x => !x.1) && (backToKw cpos (keywordEach [] X.env)).all (fun x => x.1.isSome)
      && decide ([e].length + ([] : List Keyword).length + (if ([] : List Keyword).isEmpty then 0 else 1) < 30)) = true := by rfl)
    (hline : (apos.endLine == cpos.line) = true := by rfl) (hs : starEach [e] X.env = (false, eval e X.env) :: starEach [] X.env := by rfl) (hplain : (backTo cpos (starEach [] X.env)).any (·.1) = false := by rfl)
    (hsw : swapsWith (.Call (.Attribute ob "update" apos) [e] [] cpos) none pos.line X.env = pure false := by rfl) : wS X (.Expr (.Call (.Attribute ob "update" apos) [e] [] cpos) pos) D σ H :=
  PS.to (ps_expr (pe_bm PySem.F.plainAttrs_dict PySem.F.slot_dict_update PySem.F.type_dict_update (mt_updT hu) (peW ob) (paW [e]) hbase hfew hline hs hplain) hsw) (ho H le _ fun v K1 H1 n1 hv => by
    obtain rfl : v = .ref d := hv
    have hd1 := n1.same d _ hd
    refine ⟨.inr (.inr (.inl ⟨rfl, .inr ⟨_, hd1⟩⟩)), ?_⟩
    refine ea_1 (h.mono n1.le) hs H1 n1.in_ _ fun vs K2 H2 n2 ⟨u, _, e1, ⟨b, kvs2, e2, h1, h2⟩, e3⟩ => ?_
    subst e3; subst e2
    have n := n1.trans n2
    have hd2 := n2.same d _ hd1
    have kd2 : K2 d = none := n.out d _ hd rfl hk
    have db : d ≠ b := fun z => by
      rw [← z] at h1
      unfold co at h1
      rw [kd2] at h1; cases h1
    exact ⟨d, b, kvs, kvs2, rfl, e1, hd2, co_dT.mp (n2.in_ b _ h1), db, by rw [paired_len h2]; exact hz, hash_keys h2 ▸ hh, k K2 H2 kvs2 n hd2 h2⟩)
end
end SN
end TQDC

section TQBT
set_option Elab.async false
set_option linter.all false
set_option maxRecDepth 100000
set_option maxHeartbeats 4000017
/-! QBT: _law_built. -/
namespace SN
open PySem PySem.Spec PyProof.Rows L2 NdefX
section
variable {X : Cx} {α : Type} {σ : L2.St} {K H : Hp} {p : Addr} {r : Rel α}
/-- a def that draws, asked within an expression -/
theorem w_pen {x : Str} {e1 : Expr} {p0 pos : Pos} {k n cost : Nat} {c : PenC} {good : α → Prop} {Q : VK} (D : DfX X n x (spPen X.K r good cost)) (hr : Room n X.A) (le : Le K (era H p)) (pc : PenK X.K K c) (pen : PenO H p c (k + cost)) (h1 : EV X e1 σ K rVal (.ref p))
    (q : ∀ v a K' H', Nxt K (era H p) K' (era H' p) → PenO H' p c k → r.r K' v a → good a → Q v H')
    (hg : Gl X x := by rfl) (hdb : (x == ("__debug__" : Str)) = false := by decide) (he : starEach [e1] X.env = (false, eval e1 X.env) :: starEach [] X.env := by rfl) (hpl : (backTo pos (starEach [] X.env)).any (·.1) = false := by rfl) :
    wE X (.Call (.Name x p0) [e1] [] pos) σ H Q := by
  obtain ⟨f', hm, hk, FR⟩ := D.ex
  obtain ⟨l, hd⟩ := pen.obj
  exact PE.to (pe_df (E := E0') hm hk FR hr passL' (paW [e1]) hg hdb he hpl) (ea_1 h1 he H (era_le le) _ fun vs K2 H2 n2 ⟨v, _, e1, hv, e3⟩ => by
    subst e3; subst e1
    obtain rfl : v = .ref p := hv
    have n3 := n2.era (le_era_none le) hd rfl
    exact ⟨K2, p, k, c, rfl, n3.in_, pc.mono n2.le, pen.nxt n2.same, fun v a K' H' n hp hr hg => q v a K' H' (n3.trans n) hp hr hg⟩)
/-- a loop over a list that something drawn gives -/
theorem s_forW {tg iter : Expr} {body : List Stmt} {pos : Pos} {D : Ends} {g : TG} {C : Hp → Hp → List α → Prop} (hp : PassesOwn (model X.prog X.w) X.A X.env X.xe) (hc : X.calm = true) (hg : PG X tg g) (hw : ∀ Q : VK, (∀ v K1 H1 xs, C K1 H1 xs → Le K1 H1 → (rLst X.K r).r K1 v xs → Q v H1) → wE X iter σ H Q)
    (h : ∀ K1 H1 xs, C K1 H1 xs → Le K1 H1 → ∃ Pv : Nat → L2.St → Hp → Prop, Pv 0 σ H1 ∧ (∀ i σ' H', Pv i σ' H' → Le K1 H' ∧ Lk H1 H') ∧
      (∀ i a σ' H' x K2 H'', xs[i]? = some a → Pv i σ' H' → Nxt K1 H' K2 H'' → r.r K2 x a → g x σ' H'' fun σ2 H2 => wSs X body { D with nx := Pv (i + 1), ct := Pv (i + 1), bk := D.nx } σ2 H2) ∧ ∀ σ' H', Pv xs.length σ' H' → D.nx σ' H')
    (hf : ∀ x, foldedSetIterable iter X.env x = pure x := by intro _; rfl) : wS X (.For tg iter body [] pos) D σ H :=
  PS.to (ps_for hp hc (piW tg iter) hg (pssW body) hf) (PI.to (pi_list (peW iter)) (hw _ fun v K1 H1 xs c l ⟨p, vs, e1, g1, g2⟩ => ⟨p, e1, ⟨vs, le_L l g1⟩, by
    obtain ⟨Pv, h0, h1, h2, h3⟩ := h K1 H1 xs c l
    have wk : Walk _ xs.length _ _ := (paired_len g2 ▸ (walk_list (K := X.K) (a := p) (xs := vs)) : Walk _ xs.length _ _)
    exact for_it wk Pv h0 (fun i σ' H' _ p => le_L (h1 i σ' H' p).1 g1) (fun i x σ' H' H'' hi p y => by
      obtain ⟨e2, e3⟩ := y
      obtain ⟨a, y1, y2⟩ := paired_get' g2 e3
      subst e2
      exact h2 i a σ' _ x K1 _ y1 p (.refl (h1 i σ' _ p).1) y2) h3⟩))
end
/-! ### the state of the loop -/
structure BSt (K0 H0 K1 H1 : Hp) (p : Addr) (c : PenC) (k : Nat) (d : Addr) (kvs : List (List Key × V)) (K H : Hp) : Prop where
  n : Nxt K0 (era H0 p) K (era H p)
  l1 : Le K1 K
  lk : Lk H1 H
  pen : PenO H p c k
  hd : H d = some (.dT kvs)
  kd : K d = none
  dp : d ≠ p
  d0 : H0 d = none
  d1 : H1 d = none ∨ ∃ kv, H1 d = some (.dT kv)
  dom : ∀ a, H a = none → H1 a = none
section
variable {K0 H0 K1 H1 : Hp} {p d : Addr} {c : PenC} {k : Nat} {kvs : List (List Key × V)} {K H K' H' : Hp}
theorem BSt.le (S : BSt K0 H0 K1 H1 p c k d kvs K H) : Le K H := era_le S.n.in_
theorem BSt.step (S : BSt K0 H0 K1 H1 p c k d kvs K H) (n : Nxt K H K' H') : BSt K0 H0 K1 H1 p c k d kvs K' H' := by
  obtain ⟨l, hp⟩ := S.pen.obj
  exact ⟨S.n.trans (n.era (le_era_none S.n.in_) hp rfl), S.l1.trans n.le, S.lk.trans n.lk, S.pen.nxt n.same, n.same d _ S.hd, n.out d _ S.hd rfl S.kd, S.dp, S.d0, S.d1, fun a h => S.dom a (by
    cases q : H a with
    | none => rfl
    | some o => rw [n.same a o q] at h; cases h)⟩
theorem BSt.draw {k' : Nat} (S : BSt K0 H0 K1 H1 p c k d kvs K H) (n : Nxt K (era H p) K' (era H' p)) (pn : PenO H' p c k') : BSt K0 H0 K1 H1 p c k' d kvs K' H' := by
  obtain ⟨l, hp⟩ := S.pen.obj
  have e := n.same d _ (by rw [era_ne S.dp]; exact S.hd)
  rw [era_ne S.dp] at e
  exact ⟨S.n.trans n, S.l1.trans n.le, S.lk.trans (lk_era n.same hp pen_nf), pn, e, n.out d _ (by rw [era_ne S.dp]; exact S.hd) rfl S.kd, S.dp, S.d0, S.d1, fun a h => S.dom a (by
    cases q : H a with
    | none => rfl
    | some o =>
      have ap : a ≠ p := fun z => by subst z; obtain ⟨l2, h2⟩ := pn.obj; rw [h2] at h; cases h
      have := n.same a o (by rw [era_ne ap]; exact q)
      rw [era_ne ap, h] at this; cases this)⟩
theorem BSt.put {kv2 : List (List Key × V)} (S : BSt K0 H0 K1 H1 p c k d kvs K H) : BSt K0 H0 K1 H1 p c k d kv2 K (upd H d (.dT kv2)) := by
  refine ⟨?_, S.l1, ?_, S.pen.put (Ne.symm S.dp), upd_same, S.kd, S.dp, S.d0, S.d1, fun a h => S.dom a (by
    by_cases e : a = d
    · subst e; rw [upd_same] at h; cases h
    · rwa [upd_ne e] at h)⟩
  · rw [era_upd_ne S.dp]; exact S.n.mut (by rw [era_ne S.dp]; exact S.d0) S.kd
  · rcases S.d1 with e | ⟨kv, e⟩
    · exact lk_mut S.lk e
    · exact lk_mut' S.lk e (fun _ _ z => nomatch z)
theorem BSt.new {d2 : Addr} {kv2 : List (List Key × V)} (S : BSt K0 H0 K1 H1 p c k d kvs K H) (h : H d2 = none) : BSt K0 H0 K1 H1 p c k d2 kv2 K (upd H d2 (.dT kv2)) := by
  obtain ⟨l, hp⟩ := S.pen.obj
  have dp : d2 ≠ p := fun z => by subst z; rw [hp] at h; cases h
  have kd : K d2 = none := S.le.fresh h
  have d0 : H0 d2 = none := by
    cases q : H0 d2 with
    | none => rfl
    | some o =>
      have := S.n.same d2 o (by rw [era_ne dp]; exact q)
      rw [era_ne dp, h] at this; cases this
  have d1 : H1 d2 = none := S.dom d2 h
  refine ⟨?_, S.l1, ?_, S.pen.put (Ne.symm dp), upd_same, kd, dp, d0, .inl d1, fun a h => S.dom a (by
    by_cases e : a = d2
    · subst e; rw [upd_same] at h; cases h
    · rwa [upd_ne e] at h)⟩
  · rw [era_upd_ne dp]; exact S.n.mut (by rw [era_ne dp]; exact d0) kd
  · exact lk_mut S.lk d1
end
/-! ### what the steps ask -/
abbrev names4 : List Str := ["a", "b", "c", "d"]
def cutD (D own : Cells) : Cells := dputs [] (((keyL D).filter fun c => !(dget own c).isSome).map tru)
def metD (D own : Cells) : Cells := dputs [] (((keyL D).filter fun c => (dget own c).isSome).map tru)
structure BStep (P : Program) (w : World) (I : Mkd → Cells → Prop) : Prop where
  z : I noM []
  blk : ∀ b nm, GoodB b → nm ∈ names4 → BlkOk b nm
  join : ∀ M D b nm, I M D → GoodB b → nm ∈ names4 → OpOk2 P w "joined" M (blkF b nm) ∧ D.length + (lawC b).length ≤ sz ∧ ((lawC b).map fun x => hashC P w x.1).Nodup ∧ I (opF M (blkF b nm) "joined") (dputs D (lawC b))
  cut : ∀ M D b nm, I M D → GoodB b → nm ∈ names4 → OpOk2 P w "cut" M (blkF b nm) ∧ D.length ≤ sz ∧ I (opF M (blkF b nm) "cut") (cutD D (lawC b))
  met : ∀ M D b nm, I M D → GoodB b → nm ∈ names4 → OpOk2 P w "met" M (blkF b nm) ∧ D.length ≤ sz ∧ I (opF M (blkF b nm) "met") (metD D (lawC b))
abbrev stBuilt : Stmt := top 65
abbrev NBuilt : List Str := ["_law_pen_here", "_law_made", "_law_cells_here", "_law_name", "_law_box_here", "_law_way", "_law_own", "_law_tool", "_law_cell"]
structure MtsOk (F : PySem.W.Frag) (CM : Addr) : Prop where
  op : MtF F CM "operated" "Marked.operated" stOp ["self", "tool", "word"]
  jo : MtF F CM "joined" "Marked.joined" (mth 56 9) ["self", "tool"]
  cu : MtF F CM "cut" "Marked.cut" (mth 56 10) ["self", "tool"]
  me : MtF F CM "met" "Marked.met" (mth 56 11) ["self", "tool"]
  ts : MtF F CM "to_solid" "Marked.to_solid" (mth 56 2) ["self"]
abbrev PrD (kvs : List (List Key × V)) (D : Cells) : Prop := Paired (fun (kv : List Key × V) (ka : Cell × Bool) => kv.1 = ck ka.1 ∧ kv.2 = .bl ka.2) kvs D
theorem PrD.r {K : Hp} {d : Addr} {kvs : List (List Key × V)} {D : Cells} (h : PrD kvs D) (hd : co K d = some (.dT kvs)) : (rDC rBl).r K (.ref d) D := ⟨d, kvs, rfl, hd, h⟩
section
variable {P : Program} {w : World} {F : PySem.W.Frag} {mg : Str → Option Value} {base : Heap} {CS CG CM CT : Addr}
abbrev spBuilt (P : Program) (w : World) (F : PySem.W.Frag) (CM : Addr) (I : Mkd → Cells → Prop) : Sp := spPen F (rTup2 F (rMk P w F CM) (rDC rBl)) (fun a => I a.1 a.2) 40
theorem df_built {I : Mkd → Cells → Prop} (T : TX w F mg) (B : TB mg) (L : TL mg) (Cs : CsOk P w F mg CS CG CM CT) (Ds : DsOk P w F mg base CT) (Do : DoOk P w F mg base CM) (Mt : MtsOk F CM) (St : BStep P w I)
    (Dn : Df P w F mg base 7 "nothing" (sp00 (rMk P w F CM) noM)) (Dk : Df P w F mg base 7 "block" (spBlk P w F CM)) (Dc : Df P w F mg base 1 "_law_cells" (sp1 rBox (rDC rBl) GoodB lawC)) (Db : Df P w F mg base 2 "_law_box" (spPen F rBox GoodB 6)) (Dd : Df P w F mg base 1 "_law_draw" (spDraw F))
    (G : FnF F mg "_law_built" stBuilt ["_law_pen_here"]) : Df P w F mg base 9 "_law_built" (spBuilt P w F CM I) := by
  have S : FnScope NBuilt ["_law_pen_here"] (defScope stBuilt) := ⟨rfl, rfl, rfl, by decide +kernel, rfl, by decide +kernel, by decide +kernel⟩
  refine df_fn (N := NBuilt) G S (fun vs H Q E ⟨K, p, k, c, e, _⟩ => by rw [e]; rfl) ?_
  rintro X _ H Q E f cdv A outer s rfl hr ⟨K, p, k, c, rfl, le, pc, pen, q⟩
  have hu := hu_of hr
  have hu16 : A.units + 3 + 16 < cLine := by have := hr.un; exact Nat.lt_of_le_of_lt (by show _ ≤ (A.units + 3) + 16 * 8 + 200; omega) this
  have hk := le_era_none le
  obtain ⟨pl, hd⟩ := pen.obj
  have leH := era_le le
  have hN : ∀ pos pos2, EV (cxD P w F mg base NBuilt "_law_built" stBuilt f cdv A outer s H E) (.Call (.Name "nothing" pos) [] [] pos2) (start NBuilt [.ref p]) K (rMk P w F CM) noM := fun pos pos2 => ev_call00 Dn (hr.mono (by decide))
  -- made, cells_here
  refine ss_cons (PS.to (ps_par (i := 1) (j := 2) rfl S.nd rfl rfl (by decide) rfl rfl (pa_cons (peW _) (pa_cons pe_dnewT pa_nil)) rfl rfl) (hN _ _ H leH _ fun vm K1 H1 n1 hM d hd0 => ⟨_, _, rfl, ?_⟩))
  have nE1 := n1.era hk hd rfl
  have hd1 := n1.same p _ hd
  have dp : d ≠ p := fun z => by subst z; rw [hd1] at hd0; cases hd0
  have dH : H d = none := by
    cases z : H d with
    | none => rfl
    | some o => have := n1.same d o z; rw [hd0] at this; cases this
  have kd : K1 d = none := n1.in_.fresh hd0
  have n2 : Nxt K (era H p) K1 (era (upd H1 d (.dT [])) p) := by rw [era_upd_ne dp]; exact nE1.mut (by rw [era_ne dp]; exact dH) kd
  have pn2 : PenO (upd H1 d (.dT [])) p c (k + 40) := (pen.nxt n1.same).put (Ne.symm dp)
  have dd2 : upd H1 d (.dT []) d = some (.dT []) := upd_same
  generalize upd H1 d (.dT []) = H2 at n2 pn2 dd2
  -- for
  refine ss_cons (s_forW (r := rStr) (C := fun K5 H5 xs => Nxt K (era H p) K5 (era H5 p) ∧ PenO H5 p c (k + 39) ∧ H5 d = some (.dT []) ∧ K5 d = none ∧ (rMk P w F CM).r K5 vm noM ∧ ∃ n, xs = names4.take n) (g := gName 3) (passes_of rfl) rfl (pg_name (i := 3) S.nd rfl (Or.inl rfl)) (fun Q hQ => ?_) fun K5 H5 xs ⟨n5, pn5, dd5, kd5, hM5, nx, ex⟩ l5 => ?_)
  · have hL : ∀ a b c2 d2 a' b' c' d' pos, EV (cxD P w F mg base NBuilt "_law_built" stBuilt f cdv A outer s H E) (.List [.Constant (.str "a") a a', .Constant (.str "b") b b', .Constant (.str "c") c2 c', .Constant (.str "d") d2 d'] pos) (((start NBuilt [.ref p]).set 1 (some vm)).set 2 (some (.ref d))) K1 (rLst F rStr) names4 := fun a b c2 d2 a' b' c' d' pos =>
      ev_lst (ea_cons (r := rStr) (a := "a") ev_str (ea_cons (r := rStr) (a := "b") ev_str (ea_cons (r := rStr) (a := "c") ev_str (ea_1 (r := rStr) (a := "d") ev_str) (mo_cons mo_nil)) (mo_cons (mo_cons mo_nil))) (mo_cons (mo_cons (mo_cons mo_nil)))) fun vs K' z l ⟨v1, _, e1, h1, v2, _, e2, h2, v3, _, e3, h3, v4, _, e4, h4, e5⟩ => by
        subst e5; subst e4; subst e3; subst e2; subst e1
        exact ⟨sz3 (by simp), fun hz => ⟨z, _, rfl, SqL.of upd_same, .cons h1 (.cons h2 (.cons h3 (.cons h4 .nil)))⟩⟩
    refine PE.to (pe_slice sl_list (peW _) po_none (po_some (peW _))) (hL _ _ _ _ _ _ _ _ _ H2 (era_le n2.in_) _ fun v K3 H3 n3 ⟨pl2, ws, e1, g1, g2⟩ => ?_)
    subst e1
    obtain ⟨pl3, hp3⟩ := pn2.obj
    have n3E := n3.era (le_era_none n2.in_) hp3 rfl
    refine w_draw (K := K3) (p := p) (m := 5) (k := k + 39) (c := c) Dd (hr.mono (by decide)) n3E.in_ (pc.mono (n2.le.trans n3.le)) (pn2.nxt n3.same) (ev_name 0 rfl rfl) ev_int (by omega) (by omega) fun v K4 H4 n4 pn4 v0 v5 => ?_
    refine ⟨v, rfl, pl2, ws, rfl, le_L (n4.le.trans (era_le n4.in_)) g1, fun z hz => ?_⟩
    have hd3 := n3.same d _ dd2
    have e4 := n4.same d _ (by rw [era_ne dp]; exact hd3)
    rw [era_ne dp] at e4
    have kd4 : K4 d = none := n4.out d _ (by rw [era_ne dp]; exact hd3) rfl (n3.out d _ dd2 rfl kd)
    have zp : z ≠ p := fun y => by subst y; obtain ⟨l2, h2⟩ := pn4.obj; rw [h2] at hz; cases hz
    have zd : z ≠ d := fun y => by subst y; rw [e4] at hz; cases hz
    have nt := (n2.trans n3E).trans n4
    have nz : Nxt K (era H p) (upd K4 z (.lst (ws.take v.toNat))) (era (upd H4 z (.lst (ws.take v.toNat))) p) := by
      rw [era_upd_ne zp]; exact nt.trans (.new n4.in_ (by rw [era_ne zp]; exact hz))
    have ec : cutV ws none (some v) = ws.take v.toNat := by
      have := cut_to ws v.toNat
      rwa [← nat_of v0] at this
    rw [ec]
    refine hQ _ (upd K4 z (.lst (ws.take v.toNat))) _ (names4.take v.toNat) ⟨nz, pn4.put (Ne.symm zp), by rw [upd_ne (Ne.symm zd)]; exact e4, by rw [upd_ne (Ne.symm zd)]; exact kd4, (rMk P w F CM).mono ((n3.le.trans n4.le).trans (le_new' ((era_le n4.in_).fresh hz))) hM, v.toNat, rfl⟩ (era_le nz.in_) ⟨z, _, rfl, SqL.of upd_same, Paired.take _ (Paired.imp (fun _ _ y => y) g2)⟩
  · have len4 : xs.length ≤ 4 := by rw [ex, List.length_take]; exact Nat.min_le_right _ _
    refine ⟨fun i σ' H' => ∃ K' vm' M D d' kvs x3 x4 x5 x6 x7 x8, σ' = [some (.ref p), some vm', some (.ref d'), x3, x4, x5, x6, x7, x8] ∧ BSt K H K5 H5 p c (k + (39 - 7 * i)) d' kvs K' H' ∧ (rMk P w F CM).r K' vm' M ∧ PrD kvs D ∧ I M D, ?_, ?_, ?_, ?_⟩
    · exact ⟨K5, vm, noM, [], d, [], _, _, _, _, _, _, rfl, ⟨n5, Le.refl _, Lk.refl _, pn5, dd5, kd5, dp, dH, .inr ⟨[], dd5⟩, fun _ h => h⟩, hM5, .nil, St.z⟩
    · rintro i σ' H' ⟨K', vm', M, D, d', kvs, _, _, _, _, _, _, _, B0, _⟩
      exact ⟨B0.l1.trans B0.le, B0.lk⟩
    · rintro i nm σ' H' x K6 H'' ez ⟨K', vm', M, D, d', kvs, x3, x4, x5, x6, x7, x8, rfl, B0, hM', hD, hI⟩ n6 hx
      obtain rfl : x = .str nm := hx
      have hi : i < xs.length := (List.getElem?_eq_some_iff.mp ez).1
      have hnm : nm ∈ names4 := by have := List.mem_of_getElem? ez; rw [ex] at this; exact List.mem_of_mem_take this
      obtain ⟨n6', l6⟩ := n6.wide B0.l1 B0.le
      refine gd_name (K := join K' K6) H'' n6'.in_ _ ?_
      have B1 := B0.step n6'
      have hM1 := (rMk P w F CM).mono n6'.le hM'
      generalize join K' K6 = K7 at B1 hM1
      -- box, way
      refine ss_cons (PS.to (ps_par (i := 4) (j := 5) rfl S.nd rfl rfl (by decide) rfl rfl (pa_cons (peW _) (pa_cons (peW _) pa_nil)) rfl rfl) ?_)
      refine w_pen (K := K7) (p := p) (k := k + (33 - 7 * i)) (cost := 6) (c := c) Db (hr.mono (by decide)) B1.n.in_ (pc.mono B1.n.le) (B1.pen.less (by omega)) (ev_name 0 rfl rfl) fun vb b K8 H8 n8 pn8 hb gb => ?_
      have B2 := B1.draw n8 pn8
      refine w_draw (K := K8) (p := p) (m := 5) (k := k + (32 - 7 * i)) (c := c) Dd (hr.mono (by decide)) B2.n.in_ (pc.mono B2.n.le) (B2.pen.less (by omega)) (ev_name 0 rfl rfl) ev_int (by omega) (by omega) fun way K9 H9 n9 pn9 w0 w5 => ⟨_, _, rfl, ?_⟩
      have B3 := B2.draw n9 pn9
      have hb3 := rBox.mono n9.le hb
      have hM3 := (rMk P w F CM).mono (n8.le.trans n9.le) hM1
      -- own, tool
      refine ss_cons (s_asgG (g := gt2 F 6 7) (r := rTup2 F (rDC rBl) (rMk P w F CM)) (a := (lawC b, blkF b nm)) (pg_n2 6 7 rfl S.nd rfl rfl (Or.inr rfl) (Or.inl rfl) (Or.inl rfl) (Or.inl rfl)) B3.le (ev_tup2 (ev_call1 (a := b) Dc (hr.mono (by decide)) (ev_name 4 rfl hb3) gb) (ev_call2 (a := b) (b := nm) Dk (hr.mono (by decide)) (ev_name 4 rfl hb3) (ev_name 3 rfl rfl) (St.blk b nm gb hnm))) fun v3 Ka Ha na ⟨pt, vo, vt, et, hpt, hvo, hvt⟩ => ?_)
      subst et
      refine gd_tup2 hpt gd_name gd_name Ha na.in_ _ ?_
      have B4 := B3.step na
      have hM4 := (rMk P w F CM).mono na.le hM3
      have leP := le_put (le_era B4.le B4.kd) B4.hd
      have coP : co (upd Ka d' (.dT kvs)) d' = some (.dT kvs) := co_dT.mpr (.inl upd_same)
      refine ss_one (s_if (b := decide (way < 3) || kvs.isEmpty) leP (EW.et (ew_or (et_lt (ev_name 5 rfl rfl) ev_int) fun _ => ew_or1 (et_eqE hu16 (ev_name 2 rfl rfl) coP))) (fun e H10 s10 l10 => ?_) fun e H10 s10 l10 => ?_)
      · have B5 := B4.step (Nxt.same1 B4.le s10)
        obtain ⟨⟨ok, few⟩, hz, hh, hI2⟩ := St.join M D b nm hI gb hnm
        obtain ⟨fj, mj, gj⟩ := Mt.jo
        refine ss_cons (s_asg (i := 1) (r := rMk P w F CM) (a := opF M (blkF b nm) "joined") S.nd rfl (Or.inl rfl) B5.le (ev_m2 (b := M) (a := blkF b nm) (pre := OpOk2 P w "joined") (fn := fun M T => opF M T "joined") Cs.mkd.cl insR_mk mj (fr_joined T Cs Ds Do Mt.op gj) hr (ev_name 1 rfl hM4) (ev_name 7 rfl hvt) ⟨ok, few⟩) fun v11 K11 H11 n11 hv11 => ?_)
        have B6 := B5.step n11
        refine ss_one (s_updT (l := lawC b) hu16 B6.le B6.kd B6.hd (ev_name 2 rfl rfl) (ev_name 6 rfl ((rDC rBl).mono n11.le hvo)) (by rw [paired_len hD]; exact hz) hh fun K12 H12 kvs2 n12 d12 hp2 => ?_)
        have B7 := (B6.step n12).put (kv2 := mergeT kvs kvs2)
        exact ⟨K12, v11, _, _, d', _, _, _, _, _, _, _, rfl, ⟨B7.n, B7.l1, B7.lk, B7.pen.less (by omega), B7.hd, B7.kd, B7.dp, B7.d0, B7.d1, B7.dom⟩, (rMk P w F CM).mono n12.le hv11, paired_mergeT (R := fun v b => v = V.bl b) hp2 hD, hI2⟩
      · have B5 := B4.step (Nxt.same1 B4.le s10)
        have hown : ∀ {K'}, Le Ka K' → (rDC rBl).r K' vo (lawC b) := fun l => (rDC rBl).mono l hvo
        refine ss_one (s_if (b := decide (way = 3)) B5.le (et_eqI (ev_name 5 rfl rfl) ev_int) (fun e3 H11 s11 l11 => ?_) fun e3 H11 s11 l11 => ?_)
        · have B6 := B5.step (Nxt.same1 B5.le s11)
          obtain ⟨⟨ok, few⟩, hz, hI2⟩ := St.cut M D b nm hI gb hnm
          obtain ⟨fj, mj, gj⟩ := Mt.cu
          refine ss_cons (s_asg (i := 1) (r := rMk P w F CM) (a := opF M (blkF b nm) "cut") S.nd rfl (Or.inl rfl) B6.le (ev_m2 (b := M) (a := blkF b nm) (pre := OpOk2 P w "cut") (fn := fun M T => opF M T "cut") Cs.mkd.cl insR_mk mj (fr_cut T Cs Ds Do Mt.op gj) hr (ev_name 1 rfl hM4) (ev_name 7 rfl hvt) ⟨ok, few⟩) fun v11 K12 H12 n11 hv11 => ?_)
          have B7 := B6.step n11
          have leQ := le_put (le_era B7.le B7.kd) B7.hd
          have coQ : co (upd K12 d' (.dT kvs)) d' = some (.dT kvs) := co_dT.mpr (.inl upd_same)
          have lQ : Le K12 (upd K12 d' (.dT kvs)) := le_put0 B7.kd
          refine ss_one (s_dictP (i := 2) (l := ((keyL D).filter fun c => !(dget (lawC b) c).isSome).map tru) rfl hu16 L.dict S.nd rfl (Or.inl rfl) leQ (ev_cdL (u := .dT kvs) (d := d') (.inr (.inl ⟨kvs, rfl⟩)) coQ (cd_l1 (own := [("_law_cell", 8)]) (p := fun c => !(dget (lawC b) c).isSome) (xs := keyL D) (f := tru) (rr := rTup2 F rCell rBl) (r := rCell) rfl S.nd (es_keysC (ev_name 2 rfl rfl) (PrD.r hD coQ)) (blkOk_by (N := NBuilt) (sc := defScope stBuilt) (by decide +kernel)) (fun _ _ _ _ _ => pg_name (i := 8) S.nd rfl (Or.inl rfl)) (by unfold keyL; rw [List.length_map]; exact hz) fun i2 c2 K13 x2 ex2 l13 hx2 => ⟨_, gd_name, wipe_t (by decide), fun s H0 C cl fp => ⟨et_notinC hu (ev_name 8 rfl hx2) (ev_name 6 rfl (hown ((n11.le.trans lQ).trans l13))), fun _ => ev_tup2 (ev_name 8 rfl hx2) ev_bl⟩⟩)) ?_ fun K14 H14 d2 kvs2 n14 hd2 hp2 => ?_)
          · rw [List.length_map]; exact Nat.le_trans (List.length_filter_le _ _) (by unfold keyL; rw [List.length_map]; exact hz)
          have n14' := n14.unput' B7.kd
          have B8 := (B7.step n14').new (d2 := d2) (kv2 := kvs2) hd2
          exact ⟨_, v11, _, _, d2, _, _, _, _, _, _, _, rfl, ⟨B8.n, B8.l1, B8.lk, B8.pen.less (by omega), B8.hd, B8.kd, B8.dp, B8.d0, B8.d1, B8.dom⟩, (rMk P w F CM).mono n14'.le hv11, hp2, hI2⟩
        · have B6 := B5.step (Nxt.same1 B5.le s11)
          obtain ⟨⟨ok, few⟩, hz, hI2⟩ := St.met M D b nm hI gb hnm
          obtain ⟨fj, mj, gj⟩ := Mt.me
          refine ss_cons (s_asg (i := 1) (r := rMk P w F CM) (a := opF M (blkF b nm) "met") S.nd rfl (Or.inl rfl) B6.le (ev_m2 (b := M) (a := blkF b nm) (pre := OpOk2 P w "met") (fn := fun M T => opF M T "met") Cs.mkd.cl insR_mk mj (fr_met T Cs Ds Do Mt.op gj) hr (ev_name 1 rfl hM4) (ev_name 7 rfl hvt) ⟨ok, few⟩) fun v11 K12 H12 n11 hv11 => ?_)
          have B7 := B6.step n11
          have leQ := le_put (le_era B7.le B7.kd) B7.hd
          have coQ : co (upd K12 d' (.dT kvs)) d' = some (.dT kvs) := co_dT.mpr (.inl upd_same)
          have lQ : Le K12 (upd K12 d' (.dT kvs)) := le_put0 B7.kd
          refine ss_one (s_dictP (i := 2) (l := ((keyL D).filter fun c => (dget (lawC b) c).isSome).map tru) rfl hu16 L.dict S.nd rfl (Or.inl rfl) leQ (ev_cdL (u := .dT kvs) (d := d') (.inr (.inl ⟨kvs, rfl⟩)) coQ (cd_l1 (own := [("_law_cell", 8)]) (p := fun c => (dget (lawC b) c).isSome) (xs := keyL D) (f := tru) (rr := rTup2 F rCell rBl) (r := rCell) rfl S.nd (es_keysC (ev_name 2 rfl rfl) (PrD.r hD coQ)) (blkOk_by (N := NBuilt) (sc := defScope stBuilt) (by decide +kernel)) (fun _ _ _ _ _ => pg_name (i := 8) S.nd rfl (Or.inl rfl)) (by unfold keyL; rw [List.length_map]; exact hz) fun i2 c2 K13 x2 ex2 l13 hx2 => ⟨_, gd_name, wipe_t (by decide), fun s H0 C cl fp => ⟨et_inC hu (ev_name 8 rfl hx2) (ev_name 6 rfl (hown ((n11.le.trans lQ).trans l13))), fun _ => ev_tup2 (ev_name 8 rfl hx2) ev_bl⟩⟩)) ?_ fun K14 H14 d2 kvs2 n14 hd2 hp2 => ?_)
          · rw [List.length_map]; exact Nat.le_trans (List.length_filter_le _ _) (by unfold keyL; rw [List.length_map]; exact hz)
          have n14' := n14.unput' B7.kd
          have B8 := (B7.step n14').new (d2 := d2) (kv2 := kvs2) hd2
          exact ⟨_, v11, _, _, d2, _, _, _, _, _, _, _, rfl, ⟨B8.n, B8.l1, B8.lk, B8.pen.less (by omega), B8.hd, B8.kd, B8.dp, B8.d0, B8.d1, B8.dom⟩, (rMk P w F CM).mono n14'.le hv11, hp2, hI2⟩
    · rintro σ' H' ⟨K', vm', M, D, d', kvs, x3, x4, x5, x6, x7, x8, rfl, B0, hM', hD, hI⟩
      have np := B0.n.pub (by rw [era_ne B0.dp]; exact B0.d0) B0.kd (by rw [era_ne B0.dp]; exact B0.hd)
      have kp : upd K' d' (.dT kvs) p = none := by rw [upd_ne (Ne.symm B0.dp)]; exact le_era_none B0.n.in_
      obtain ⟨plz, hdz⟩ := B0.pen.obj
      refine ss_one (s_ret (r := rTup2 F (rMk P w F CM) (rDC rBl)) (a := (M, D)) (era_le np.in_) (ev_tup2 (ev_name 1 rfl ((rMk P w F CM).mono (le_put0 B0.kd) hM')) (ev_name 2 rfl (PrD.r hD (co_dT.mpr (.inl upd_same))))) fun v K9 H9 n9 hv => ?_)
      exact q v (M, D) K9 H9 (np.trans (n9.era kp hdz rfl)) ((B0.pen.nxt n9.same).less (by omega)) hv hI
end
end SN
end TQBT

section TQIS
set_option Elab.async false
set_option linter.all false
set_option maxRecDepth 100000
set_option maxHeartbeats 4000017
/-! QIS: _law_is_solid. -/
namespace SN
open PySem PySem.Spec PyProof.Rows L2 NdefX
section
variable {X : Cx} {σ : L2.St} {K : Hp}
theorem ev_repr {e : Expr} {p pos : Pos} {i : Int} (hm : X.mg "repr" = none) (hz : i.natAbs.log2 < 1920) (h : EV X e σ K rInt i) (hg : Gl X "repr" := by rfl) (he : starEach [e] X.env = (false, eval e X.env) :: starEach [] X.env := by rfl) (hpl : (backTo pos (starEach [] X.env)).any (·.1) = false := by rfl) :
    EV X (.Call (.Name "repr" p) [e] [] pos) σ K rStr (toString i) :=
  ev_callB SkE.call_repr_int hm (by decide +kernel) (ea_1 h he) (fun vs K1 H1 Q _ l ⟨v, _, e1, hv, e3⟩ q => by
    subst e3; subst e1
    exact ⟨i, by rw [show v = .int i from hv], hz, q _ K1 H1 (.refl l) rfl⟩) hg (by decide) (by decide) he hpl
end
structure HasF (F : PySem.W.Frag) (CG f : Addr) : Prop where
  at_ : PySem.W.findIn F (.ref CG) "__contains__" = some (some (.ref f))
  fn : PySem.W.isFn F (.ref f) = true
  g : FnAt F f "__contains__" "Solid.__contains__" stHas ["self", "cell"]
structure VolF (F : PySem.W.Frag) (CG : Addr) : Prop where
  ex : ∃ p f, PropOf F CG "volume" p f ∧ FnAt F f "volume" "Solid.volume" stVol ["self"]
structure IsOk (s : Sol) (l : List Cell) : Prop where
  vol : VolOk s
  eq : volF s = (l.length : Int)
  z : l.length ≤ sz
  has : ∀ c ∈ l, HasOk s c ∧ hasF s c = true
theorem log_small {n : Nat} (h : n ≤ sz) : ((n : Int)).natAbs.log2 < 1920 := by
  rw [Int.natAbs_natCast]
  by_cases e : n = 0
  · subst e; decide
  · rw [Nat.log2_lt e]
    refine Nat.lt_of_le_of_lt h ?_
    unfold sz
    decide +kernel
abbrev stIsSol : Stmt := top 66
abbrev NIs : List Str := ["_law_found", "_law_cells_here", "_law_cell"]
structure TRp (mg : Str → Option Value) : Prop where
  rp : mg "repr" = none
section
variable {P : Program} {w : World} {F : PySem.W.Frag} {mg : Str → Option Value} {base : Heap} {CS CG CM CT : Addr}
abbrev spIsSol (F : PySem.W.Frag) (CG : Addr) : Sp := sp2 (rSol F CG) (rLst F rCell) rBl IsOk fun _ _ => true
theorem df_isSol (T : TX w F mg) (B : TB mg) (R : TRp mg) (c : ClsOk F CG) (hS : mg "Solid" = some (.ref CS)) (Is : IsF F CG CS) (Vo : VolF F CG) (Hs : ∃ f, HasF F CG f)
    (D1 : Df P w F mg base 2 "is_point" spIsPoint) (D2 : Df P w F mg base 1 "index_of" (spIx F)) (D3 : Df P w F mg base 2 "sizes" (spPoint F szF)) (D4 : Df P w F mg base 1 "product_of" spProd) (G : FnF F mg "_law_is_solid" stIsSol ["_law_found", "_law_cells_here"]) : Df P w F mg base 5 "_law_is_solid" (spIsSol F CG) := by
  have S : FnScope NIs ["_law_found", "_law_cells_here"] (defScope stIsSol) := ⟨rfl, rfl, rfl, by decide +kernel, rfl, by decide +kernel, by decide +kernel⟩
  refine df_fn (N := NIs) G S (fun vs H Q E ⟨K, v, a, u, b, e, _⟩ => by rw [e]; rfl) ?_
  rintro X _ H Q E f cdv A outer s rfl hr ⟨K, v1, sA, v2, l, rfl, le, h1, h2, ok, q⟩
  obtain ⟨pv, fv, hp, gv⟩ := Vo.ex
  obtain ⟨fh, HB⟩ := Hs
  have Fv := fr_vol T c D3 D4 gv (P := P) (w := w) (base := base) (mg := mg)
  have Fh := fr_has T c D1 D2 HB.g
  have hz := log_small ok.z
  refine ss_cons (s_if (b := false) le (EW.et ((ew_or (b := false) (c := false) (et_not (b := true) (et_val (ev_isC (r := rSol F CG) (a := sA) B.isi hS Is insR_sol c.cl (ev_name 0 rfl h1)))) fun _ => ew_or1 ?_))) (fun e => Bool.noConfusion e) fun _ H1 s1 l1 => ss_nil ?_)
  · exact ET.of (et_neS (ev_repr (i := volF sA) R.rp (by rw [ok.eq]; exact hz) (ev_prop (fn := volF) (a := sA) c.cl hp Fv hr insR_sol (ev_name 0 rfl h1) ok.vol)) (ev_repr (i := (l.length : Int)) R.rp hz (ev_lenL (l := l) T.bLen (ev_name 1 rfl h2)))) (by rw [ok.eq, decide_eq_true rfl]; rfl)
  have n1 := Nxt.same1 le s1
  refine ss_cons (s_forS (Sg := fun σ => ∃ z, σ = [some v1, some v2, z]) (g := gName 2) (passes_of rfl) rfl (pg_name (i := 2) S.nd rfl (Or.inl rfl)) ⟨_, rfl⟩ l1 (es_list (ev_name 1 rfl h2)) ?_ ?_)
  · rintro i cc σ' K2 H2 x ex ⟨z, rfl⟩ n2 hx
    have hm := List.mem_of_getElem? ex
    refine ⟨[some v1, some v2, some x], gd_name, fun D' hD k => ?_⟩
    obtain ⟨o1, o2⟩ := ok.has cc hm
    refine ss_one (s_if (b := false) n2.in_ ?_ (fun e => Bool.noConfusion e) fun _ H3 s3 l3 => ss_nil (k _ K2 H3 ⟨some x, rfl⟩ (Nxt.same1 n2.in_ s3)))
    exact ET.of (et_notinI (fn := hasF) (a := sA) (b := cc) HB.at_ HB.fn Fh (hr.mono (by decide)) insR_sol (ev_name (K := K2) (σ := [some v1, some v2, some x]) 2 rfl hx) (ev_name 0 rfl ((rSol F CG).mono n2.le h1)) o1) (by rw [o2]; rfl)
  · rintro σ' K' H' ⟨z, rfl⟩ n'
    exact ss_one (s_ret (r := rBl) (a := true) n'.in_ ev_bl fun v K3 H3 n3 hv => q v K3 H3 ((n1.trans n').trans n3) hv)
end
end SN
end TQIS

section TQNB
set_option Elab.async false
set_option linter.all false
set_option maxRecDepth 100000
set_option maxHeartbeats 4000017
/-! QNB: != of lists of boxes; operators that cannot raise. -/
namespace SN
open PySem PySem.Spec PyProof.Rows L2 NdefX
def dCell (c : Cell) : PyData := .tuple [.int c.1, .int c.2.1, .int c.2.2]
def dBox (b : Box) : PyData := .tuple [dCell b.1, dCell b.2]
def dBoxes (bs : List Box) : PyData := .list (bs.map dBox)
theorem dBoxes_lay (bs : List Box) : PyData.canLayAll0 (bs.map dBox) = true ∧ PyData.depthAll (bs.map dBox) ≤ 2 := by
  induction bs with
  | nil => exact ⟨rfl, Nat.zero_le _⟩
  | cons b bs ih =>
    rw [List.map_cons]
    constructor
    · show (PyData.canLay0 (dBox b) && PyData.canLayAll0 (bs.map dBox)) = true
      rw [ih.1]; rfl
    · show max (PyData.depth (dBox b)) (PyData.depthAll (bs.map dBox)) ≤ 2
      exact Nat.max_le.mpr ⟨by show (2 : Nat) ≤ 2; decide, ih.2⟩
theorem dBoxes_shaped (bs : List Box) : SeqAt.shaped (dBoxes bs) = true := by
  have h := dBoxes_lay bs
  unfold SeqAt.shaped dBoxes
  rw [Bool.and_eq_true]
  refine ⟨h.1, decide_eq_true ?_⟩
  show PyData.depthAll (bs.map dBox) + 1 ≤ 64
  omega
section
variable {X : Cx} {σ : L2.St} {K H : Hp}
theorem dp_cell {v : V} {c : Cell} {F : PySem.W.Frag} (le : Le K H) (h : rCell.r K v c) : Dp F H v (dCell c) := by
  obtain ⟨p, rfl, hp⟩ := h
  exact .tup (le_T le (SqT.of (co_tup.mp hp))) (.cons (.int _) (.cons (.int _) (.cons (.int _) .nil)))
theorem dp_box {v : V} {b : Box} {F : PySem.W.Frag} (le : Le K H) (h : rBox.r K v b) : Dp F H v (dBox b) := by
  obtain ⟨p, x, y, rfl, hp, hx, hy⟩ := h
  exact .tup (le_T le (SqT.of (co_tup.mp hp))) (.cons (dp_cell le hx) (.cons (dp_cell le hy) .nil))
theorem dp_boxes {v : V} {bs : List Box} {F : PySem.W.Frag} (le : Le K H) (h : (rLst F rBox).r K v bs) : Dp F H v (dBoxes bs) := by
  obtain ⟨p, xs, rfl, hp, hq⟩ := h
  refine .lst (le_L le hp) ?_
  clear hp
  induction hq with
  | nil => exact .nil
  | cons h1 h2 ih => exact .cons (dp_box le h1) ih
theorem et_neBs {e1 e2 : Expr} {pos : Pos} {bs : List Box} (hu : X.A.units + 64 < cLine) (h1 : EV X e1 σ K (rLst X.K rBox) bs) (h2 : EV X e2 σ K (rLst X.K rBox) bs) (hm : behindInMarks .NotEq e2 = false := by rfl) : ET X (.Compare e1 [.NotEq] [e2] pos) σ K false :=
  et_cmp (op_neD hu) hm h1 h2 fun K1 H1 u v Q _ l hu hv q => by
    refine ⟨dBoxes bs, dBoxes bs, dp_boxes l hu, dp_boxes l hv, dBoxes_shaped bs, dBoxes_shaped bs, ?_⟩
    rw [PySem.SeqAt.eqv_refl _ (PySem.SeqAt.canLay_of_shaped (dBoxes_shaped bs))]
    exact q _ K1 H1 (.refl l) rfl
end
section
variable {X : Cx} {α β γ δ : Type} {σ : L2.St} {K H : Hp} {C : Addr} {rr : Rel δ} {r1 : Rel α} {a : α} {r2 : Rel β} {b : β}
theorem ev_bin2 {op : Operator} {e1 e2 : Expr} {pos : Pos} {k : Nat} {f : Addr} {pre : α → β → Prop} {fn : α → β → δ} (hc : PySem.W.selfFirst X.K C = true) (hs : PySem.W.findIn X.K (.ref C) (PySem.dunder op.info.2) = some (some (.ref f))) (hf : PySem.W.isFn X.K (.ref f) = true)
    (F : FnR X.prog X.w X.K X.mg X.base (L2.CX X.prog X.w) k f (sp2 r1 r2 rr pre fn)) (hr : Room k X.A) (i1 : InsR C "zz" r1) (i2 : InsR C "zz" r2) (h1 : EV X e1 σ K r1 a) (h2 : EV X e2 σ K r2 b) (hp : pre a b) :
    EV X (.BinOp e1 op e2 pos) σ K rr (fn a b) := fun H l Q q =>
  PE.to (pe_op (op_dun (E := E0') hc hs hf F hr passL') (peW e1) (peW e2)) (h1 H l _ fun u K1 H1 n1 hu => h2.mono n1.le H1 n1.in_ _ fun v K2 H2 n2 hv => by
    obtain ⟨p, dx, fs, rfl, g1, _⟩ := i1 K1 u a hu
    obtain ⟨p2, dy, gs, rfl, g2, _⟩ := i2 K2 v b hv
    exact ⟨p, dx, fs, p2, dy, gs, rfl, rfl, co_ins.mp ((n2.le.trans n2.in_) p _ g1), co_ins.mp (n2.in_ p2 _ g2), K2, .ref p, a, .ref p2, b, rfl, n2.in_, r1.mono n2.le hu, hv, hp, fun w K3 H3 n3 hw => q w K3 H3 ((n1.trans n2).trans n3) hw⟩)
end
structure OrF (F : PySem.W.Frag) (CG f : Addr) : Prop where
  at_ : PySem.W.findIn F (.ref CG) "__or__" = some (some (.ref f))
  fn : PySem.W.isFn F (.ref f) = true
  g : FnAt F f "__or__" "Solid.__or__" stOr ["self", "other"]
structure BoF (F : PySem.W.Frag) (CG f : Addr) : Prop where
  at_ : PySem.W.findIn F (.ref CG) "__bool__" = some (some (.ref f))
  fn : PySem.W.isFn F (.ref f) = true
  g : FnAt F f "__bool__" "Solid.__bool__" stBool ["self"]
end SN
end TQNB

section TQLW
set_option Elab.async false
set_option linter.all false
set_option maxRecDepth 100000
set_option maxHeartbeats 8000017
/-! QLW: law. -/
namespace SN
open PySem PySem.Spec PyProof.Rows L2 NdefX
/-! ### a state with the pen -/
structure PSt (F : PySem.W.Frag) (K0 H0 K1 H1 : Hp) (p : Addr) (c : PenC) (k : Nat) (K H : Hp) : Prop where
  n : Nxt K0 (era H0 p) K (era H p)
  l1 : Le K1 K
  lk : Lk H1 H
  s1 : Same (era H0 p) (era H p)
  pc : PenK F K c
  pen : PenO H p c k
section
variable {F : PySem.W.Frag} {K0 H0 K1 H1 : Hp} {p : Addr} {c : PenC} {k : Nat} {K H K' H' : Hp}
theorem PSt.le (S : PSt F K0 H0 K1 H1 p c k K H) : Le K H := era_le S.n.in_
theorem PSt.step (S : PSt F K0 H0 K1 H1 p c k K H) (n : Nxt K H K' H') : PSt F K0 H0 K1 H1 p c k K' H' := by
  obtain ⟨l, hp⟩ := S.pen.obj
  have n2 := S.n.trans (n.era (le_era_none S.n.in_) hp rfl)
  exact ⟨n2, S.l1.trans n.le, S.lk.trans n.lk, n2.same, S.pc.mono n.le, S.pen.nxt n.same⟩
theorem PSt.draw {k' : Nat} (S : PSt F K0 H0 K1 H1 p c k K H) (n : Nxt K (era H p) K' (era H' p)) (pn : PenO H' p c k') : PSt F K0 H0 K1 H1 p c k' K' H' := by
  obtain ⟨l, hp⟩ := S.pen.obj
  exact ⟨S.n.trans n, S.l1.trans n.le, S.lk.trans (lk_era n.same hp pen_nf), (S.n.trans n).same, S.pc.mono n.le, pn⟩
theorem PSt.less {j : Nat} (S : PSt F K0 H0 K1 H1 p c k K H) (h : j ≤ k) : PSt F K0 H0 K1 H1 p c j K H := ⟨S.n, S.l1, S.lk, S.s1, S.pc, S.pen.less h⟩
theorem PSt.same1 (S : PSt F K0 H0 K1 H1 p c k K H) (s : Same H H') : PSt F K0 H0 K1 H1 p c k K H' := S.step (Nxt.same1 S.le s)
end
/-! ### what a bout asks -/
def moreF (D E : Cells) : List Cell := (keyL E).filter fun c => !(dget D c).isSome
def addF (M N : Mkd) : Sol := subF (tsF N) (tsF M)
def takF (M N : Mkd) : Sol := subF (tsF M) (tsF N)
structure BoutOk (P : Program) (w : World) (M : Mkd) (D : Cells) (N : Mkd) (E : Cells) : Prop where
  tm : TsOk M
  tn : TsOk N
  bm : BxOk (tsF M)
  bn : BxOk (tsF N)
  zd : D.length ≤ sz
  ze : E.length ≤ sz
  ad : DifOk N M
  adk : subOk (tsF N) (tsF M) = true
  ism : IsOk (addF M N) (moreF D E)
  ta : DifOk M N
  tak : subOk (tsF M) (tsF N) = true
  isl : IsOk (takF M N) (moreF E D)
  sm : DifOk M M
  smk : subOk (tsF M) (tsF M) = true
  sme : (takF M M).2.isEmpty = true
  sn : DifOk N N
  snk : subOk (tsF N) (tsF N) = true
  sne : (takF N N).2.isEmpty = true
  or_ : OrOk P w (tsF M) (addF M N)
  s2 : SubOk (orF (tsF M) (addF M N)) (takF M N)
  s2k : subOk (orF (tsF M) (addF M N)) (takF M N) = true
  eq : SameS (subF (orF (tsF M) (addF M N)) (takF M N)) (tsF N)
abbrev stLaw : Stmt := top 69
abbrev NLaw : List Str := ["_law_script", "_law_pen_here", "_law_bout", "_law_one", "_law_mine", "_law_other", "_law_their", "_law_kept", "_law_more", "_law_less", "_law_cell"]
abbrev Tbl := List (Addr × Str)
def spComb (F : PySem.W.Frag) (T : Tbl) : Sp := fun vs H Q _ => ∃ K p c, vs = [.ref p] ∧ Le K (era H p) ∧ PenK F K c ∧ PenO H p c 5 ∧ LamX.Tabs T H ∧ ∀ H', Q (.bl true) H'
def spLaw (F : PySem.W.Frag) (T : Tbl) : Sp := fun vs H Q _ => ∃ (a : Addr) (xs : List Int), vs = [.ref a] ∧ SqL F H a (xs.map V.int) ∧ LamX.Tabs T H ∧ ∀ H', Q (.bl true) H'
theorem tab_same {T : Tbl} {H H' : Hp} {p : Addr} {l : List (Str × V)} (t : LamX.Tabs T H) (s : Same (era H p) (era H' p)) (hp : H p = none) : LamX.Tabs T H' := t.ext fun b o e => by
  have bp : b ≠ p := fun z => by subst z; rw [hp] at e; cases e
  have := s b o (by rw [era_ne bp]; exact e)
  rwa [era_ne bp] at this
theorem paired_int' {K : Hp} : ∀ xs : List Int, Paired (rInt.r K) (xs.map V.int) xs
  | [] => .nil
  | x :: xs => .cons rfl (paired_int' xs)
structure BoF2 (F : PySem.W.Frag) (CG : Addr) : Prop where
  ex : ∃ f, BoF F CG f
section
variable {P : Program} {w : World} {F : PySem.W.Frag} {mg : Str → Option Value} {base : Heap} {CS CG CM CT : Addr}
theorem ok_law {f : Addr} {fd : FuncData} {T : Tbl} {I : Mkd → Cells → Prop} (Tx : TX w F mg) (B : TB mg) (Cs : CsOk P w F mg CS CG CM CT) (Ds : DsOk P w F mg base CT) (Db : DbO P w F mg base CG) (Mt : MtsOk F CM)
    (Sb : ∃ f, SubF F CG f) (Or_ : ∃ f, OrF F CG f) (Bo : ∃ f, BoF F CG f) (Eq_ : ∃ f, EqF F CG f ∧ FnAt F f "__eq__" "Solid.__eq__" stEq ["self", "other"]) (hS : mg "Solid" = some (.ref CS)) (Is : IsF F CG CS)
    (Bx : MtF F CG "boxes" "Solid.boxes" stBoxes ["self"]) (D1 : Df P w F mg base 1 "low_point" (spPoint F lowF)) (D2 : Df P w F mg base 1 "high_point" (spPoint F highF))
    (Dp : Df P w F mg base 1 "_law_pen" (spPenNew F)) (Du : Df P w F mg base 9 "_law_built" (spBuilt P w F CM I)) (Da : Df P w F mg base 9 "added" (spAdded P w F CM CG CT)) (Dt : Df P w F mg base 9 "taken" (spTaken P w F CM CG CT)) (Di : Df P w F mg base 5 "_law_is_solid" (spIsSol F CG))
    (Dc : Df P w F mg base 12 "_law_comb_right" (spComb F T)) (St : ∀ M D N E, I M D → I N E → BoutOk P w M D N E) (G : Fun F "law" "law" stLaw f fd) : FnOk P w F mg base (L2.CX P w) 13 f fd ["_law_script"] (spLaw F T) := by
  have S : FnScope NLaw ["_law_script"] (defScope stLaw) := ⟨rfl, rfl, rfl, by decide +kernel, rfl, by decide +kernel, by decide +kernel⟩
  refine G.okX (N := NLaw) S (fun vs H Q E ⟨a, xs, e, _⟩ => by rw [e]; rfl) fun cdv A outer s H vs Q E hr hsp => ⟨_, pssW _, ?_⟩
  obtain ⟨a, xs, rfl, hsq, tabs, q⟩ := hsp
  replace hr : Room 12 (cxD P w F mg base NLaw "law" stLaw f cdv A outer s H E).A := hr
  have hu := hu_of hr
  have hu64 : A.units + 3 + 64 < cLine := by have := hr.un; exact Nat.lt_of_le_of_lt (by show _ ≤ (A.units + 3) + 16 * 12 + 200; omega) this
  have hu32 : A.units + 3 + 32 < cLine := by omega
  -- the script
  let K0 : Hp := fun b => if b = a then H a else none
  have K0a : K0 a = H a := if_pos rfl
  have le0 : Le K0 H := fun b o h => by
    unfold co at h ⊢
    by_cases e : b = a
    · rw [e] at h ⊢; rw [K0a] at h; exact h
    · rw [show K0 b = none from if_neg e] at h; cases h
  have hL : (rLst F rInt).r K0 (.ref a) xs := ⟨a, xs.map V.int, rfl, by
    rcases hsq with z | z
    · left
      rcases z with z | ⟨ob, z⟩
      · exact .inl (K0a.trans z)
      · exact .inr ⟨ob, K0a.trans z⟩
    · exact .inr z, paired_int' xs⟩
  clear_value K0
  -- the pen
  obtain ⟨fp, mp, kp, FP⟩ := Dp.ex
  refine ss_cons (PS.to (ps_set (i := 1) S.nd rfl (Or.inl rfl) (pe_df mp kp FP (hr.mono (by decide)) passL' (paW _))) ?_)
  refine ea_1 (ev_name 0 rfl hL) rfl H le0 _ fun vs Ka Ha na ⟨v0, _, e1, hv0, e3⟩ => ?_
  subst e3; subst e1
  refine ⟨Ka, v0, xs, rfl, na.in_, hv0, fun p K1 H1 c hp n1 pc pn => ?_⟩
  have hpH : H p = none := by
    cases z : H p with
    | none => rfl
    | some o => have := na.same p o z; rw [hp] at this; cases this
  have sm1 : Same H (era H1 p) := fun b o e => n1.same b o (na.same b o e)
  have le1 : Le K1 H1 := era_le n1.in_
  -- the bouts
  refine ss_cons (s_for (K := K1) (r := rInt) (xs := rng 0 6) (g := gName 2) (passes_of rfl) rfl (pg_name (i := 2) S.nd rfl (Or.inl rfl)) le1 (es_range1 Tx.bRange ev_int (by decide)) fun K5 H5 n5 => ?_)
  have st5 : PSt F K1 H1 K5 H5 p c 90000 K5 H5 := by
    obtain ⟨l, hpp⟩ := pn.obj
    have n := n5.era (le_era_none n1.in_) hpp rfl
    exact ⟨n, Le.refl _, Lk.refl _, n.same, pc.mono n5.le, pn.nxt n5.same⟩
  refine ⟨fun i σ' H' => ∃ K' x2 x3 x4 x5 x6 x7 x8 x9 x10, σ' = [some (.ref a), some (.ref p), x2, x3, x4, x5, x6, x7, x8, x9, x10] ∧ PSt F K1 H1 K5 H5 p c (5 + (480 - 80 * i)) K' H', ?_, ?_, ?_, ?_⟩
  · exact ⟨K5, _, _, _, _, _, _, _, _, _, rfl, st5.less (by omega)⟩
  · rintro i σ' H' ⟨K', _, _, _, _, _, _, _, _, _, _, B⟩
    exact ⟨B.l1.trans B.le, B.lk⟩
  · rintro i z σ' H' x K6 H'' ez ⟨K', x2, x3, x4, x5, x6, x7, x8, x9, x10, rfl, B0⟩ n6 hx
    have hi : i < (rng 0 6).length := (List.getElem?_eq_some_iff.mp ez).1
    have hi : i < 6 := by rw [rng_length] at hi; omega
    obtain ⟨n6', l6⟩ := n6.wide B0.l1 B0.le
    refine gd_name (K := join K' K6) H'' n6'.in_ _ ?_
    have B1 := B0.step n6'
    generalize join K' K6 = K7 at B1
    -- built twice
    refine ss_cons (PS.to (ps_asg (pe_tup (pa_cons (peW _) (pa_cons (peW _) pa_nil))) (pg_tup rfl (pgs_cons (pg_n2 3 4 rfl S.nd rfl rfl (Or.inl rfl) (Or.inr rfl) (Or.inl rfl) (Or.inl rfl)) (pgs_cons (pg_n2 5 6 rfl S.nd rfl rfl (Or.inl rfl) (Or.inr rfl) (Or.inl rfl) (Or.inl rfl)) pgs_nil)))) ?_)
    refine w_pen (K := K7) (p := p) (k := 5 + (440 - 80 * i)) (cost := 40) (c := c) Du (hr.mono (by decide)) B1.n.in_ B1.pc (B1.pen.less (by omega)) (ev_name 1 rfl rfl) fun v1 a1 K8 H8 n8 pn8 hv1 hI1 => ?_
    have B2 := B1.draw n8 pn8
    refine w_pen (K := K8) (p := p) (k := 5 + (400 - 80 * i)) (cost := 40) (c := c) Du (hr.mono (by decide)) B2.n.in_ B2.pc (B2.pen.less (by omega)) (ev_name 1 rfl rfl) fun v2 a2 K9 H9 n9 pn9 hv2 hI2 => ⟨by show 2 ≤ sizeLine; rw [sizeLine_eq]; omega, fun pt hpt => ?_⟩
    have B3 := B2.draw n9 pn9
    obtain ⟨p1, o1, c1, e1, g1, hm1, hc1⟩ := hv1
    obtain ⟨p2, o2, c2, e2, g2, hm2, hc2⟩ := hv2
    subst e1; subst e2
    obtain ⟨M, D⟩ := a1
    obtain ⟨N, E2⟩ := a2
    have Bo_ := St M D N E2 hI1 hI2
    have n10 : Nxt K9 H9 (upd K9 pt (.tup [.ref p1, .ref p2])) (upd H9 pt (.tup [.ref p1, .ref p2])) := .new B3.le hpt
    have B4 := B3.step n10
    have hm1' := (rMk P w F CM).mono (n9.le.trans n10.le) hm1
    have hc1' := (rDC rBl).mono (n9.le.trans n10.le) hc1
    have hm2' := (rMk P w F CM).mono n10.le hm2
    have hc2' := (rDC rBl).mono n10.le hc2
    refine gd_tup2 (SqT.of upd_same) (gd_tup2 (le_T (n9.le.trans n10.le) g1) gd_name gd_name) (gd_tup2 (le_T n10.le g2) gd_name gd_name) _ B4.le _ ?_
    clear n10 hm1 hm2 hc1 hc2 g1 g2 B3 B2 B1
    generalize upd K9 pt (.tup [.ref p1, .ref p2]) = Kb at B4 hm1' hc1' hm2' hc2'
    generalize upd H9 pt (.tup [.ref p1, .ref p2]) = Hb at B4
    have hM : ∀ {K' : Hp}, Le Kb K' → (rMk P w F CM).r K' o1 M := fun l => (rMk P w F CM).mono l hm1'
    have hN : ∀ {K' : Hp}, Le Kb K' → (rMk P w F CM).r K' o2 N := fun l => (rMk P w F CM).mono l hm2'
    have hD : ∀ {K' : Hp}, Le Kb K' → (rDC rBl).r K' c1 D := fun l => (rDC rBl).mono l hc1'
    have hE : ∀ {K' : Hp}, Le Kb K' → (rDC rBl).r K' c2 E2 := fun l => (rDC rBl).mono l hc2'
    obtain ⟨ft, mt, gt⟩ := Mt.ts
    obtain ⟨fb, mb, gb⟩ := Bx
    obtain ⟨fsb, SB⟩ := Sb
    obtain ⟨fo, OB⟩ := Or_
    obtain ⟨fbo, BB⟩ := Bo
    obtain ⟨fe, EB, ge⟩ := Eq_
    have Ft := fr_ts (base := base) Tx Cs Ds gt
    have FB := fr_boxes (P := P) (base := base) Tx Cs.og D1 D2 gb
    have Fsub := fr_sub Tx Cs Ds Db SB.g
    have Forr := fr_or Tx Cs Ds Db OB.g
    have Fbo := fr_bool (P := P) (w := w) (base := base) B Cs.og BB.g
    have Feq := fr_eqS (P := P) (w := w) (base := base) B Cs.og hS Is ge
    have r8 : Room 8 (A.deeper _) := hr.mono (by decide)
    -- kept
    refine ss_cons (s_asg (i := 7) (r := rLst F (rLst F rBox)) (a := [boxesF (tsF M), boxesF (tsF N)]) S.nd rfl (Or.inl rfl) B4.le (ev_lst (ea_cons (r := rLst F rBox) (a := boxesF (tsF M)) (ev_m1 (b := tsF M) (fn := boxesF) Cs.og.cl insR_sol mb FB (hr.mono (by decide)) (ev_m1 (b := M) (fn := tsF) Cs.mkd.cl insR_mk mt Ft (hr.mono (by decide)) (ev_name 3 rfl hm1') Bo_.tm) Bo_.bm) (ea_1 (r := rLst F rBox) (a := boxesF (tsF N)) (ev_m1 (b := tsF N) (fn := boxesF) Cs.og.cl insR_sol mb FB (hr.mono (by decide)) (ev_m1 (b := N) (fn := tsF) Cs.mkd.cl insR_mk mt Ft (hr.mono (by decide)) (ev_name 5 rfl hm2') Bo_.tn) Bo_.bn)) (mo_cons mo_nil)) fun vs K' z l ⟨v1, _, e1, h1, v2, _, e2, h2, e3⟩ => ?_) fun vk Kc Hc nc hk => ?_)
    · subst e3; subst e2; subst e1
      exact ⟨sz3 (by simp), fun hz => ⟨z, _, rfl, SqL.of upd_same, .cons ((rLst F rBox).mono (le_new' hz) h1) (.cons ((rLst F rBox).mono (le_new' hz) h2) .nil)⟩⟩
    have B5 := B4.step nc
    -- more
    have hE5 := hE nc.le
    obtain ⟨d2, kv2, e2, hd2, hp2⟩ := id hE5
    have em : ((keyL E2).filter fun c => !(dget D c).isSome).map id = moreF D E2 := List.map_id _
    refine ss_cons (s_cdL (i := 8) (rr := rLst F rCell) (z := moreF D E2) (u := .dT kv2) (d := d2) (.inr (.inl ⟨kv2, rfl⟩)) hd2 S.nd rfl B5.le ?_ fun vmo Kd Hd nd hmo => ?_)
    · rw [← em]
      refine cd_l1 (own := [("_law_cell", 10)]) (p := fun c => !(dget D c).isSome) (xs := keyL E2) (f := id) (rr := rCell) (r := rCell) rfl S.nd (es_keysC (ev_name 6 rfl e2) ⟨d2, kv2, rfl, hd2, hp2⟩) (blkOk_by (N := NLaw) (sc := defScope stLaw) (by decide +kernel)) (fun _ _ _ _ _ => pg_name (i := 10) S.nd rfl (Or.inl rfl)) ?_ ?_
      · unfold keyL; rw [List.length_map]; exact Bo_.ze
      · exact fun i c K3 x ex l3 hx => ⟨_, gd_name, wipe_t (by decide), fun s H0 C cl fp => ⟨et_notinC hu (ev_name 10 rfl hx) (ev_name 4 rfl (hD (nc.le.trans l3))), fun _ => ev_name 10 rfl hx⟩⟩
    have B6 := B5.step nd
    -- less
    have hD6 := hD (nc.le.trans nd.le)
    obtain ⟨d1, kv1, e1, hd1, hp1⟩ := id hD6
    have el : ((keyL D).filter fun c => !(dget E2 c).isSome).map id = moreF E2 D := List.map_id _
    refine ss_cons (s_cdL (i := 9) (rr := rLst F rCell) (z := moreF E2 D) (u := .dT kv1) (d := d1) (.inr (.inl ⟨kv1, rfl⟩)) hd1 S.nd rfl B6.le ?_ fun vle Ke He ne hle => ?_)
    · rw [← el]
      refine cd_l1 (own := [("_law_cell", 10)]) (p := fun c => !(dget E2 c).isSome) (xs := keyL D) (f := id) (rr := rCell) (r := rCell) rfl S.nd (es_keysC (ev_name 4 rfl e1) ⟨d1, kv1, rfl, hd1, hp1⟩) (blkOk_by (N := NLaw) (sc := defScope stLaw) (by decide +kernel)) (fun _ _ _ _ _ => pg_name (i := 10) S.nd rfl (Or.inl rfl)) ?_ ?_
      · unfold keyL; rw [List.length_map]; exact Bo_.zd
      · exact fun i c K3 x ex l3 hx => ⟨_, gd_name, wipe_t (by decide), fun s H0 C cl fp => ⟨et_notinC hu (ev_name 10 rfl hx) (ev_name 6 rfl (hE ((nc.le.trans nd.le).trans l3))), fun _ => ev_name 10 rfl hx⟩⟩
    have B7 := B6.step ne
    have lbe : Le Kb Ke := (nc.le.trans nd.le).trans ne.le
    have hM7 := hM lbe
    have hN7 := hN lbe
    have hk7 := (rLst F (rLst F rBox)).mono (nd.le.trans ne.le) hk
    have hmo7 := (rLst F rCell).mono ne.le hmo
    clear hM hN hD hE hE5 hD6 hp1 hp2 hd1 hd2 em el nc nd ne B4 B5 B6 hk hmo hm1' hm2' hc1' hc2'
    -- added and taken
    refine ss_cons (s_if (b := false) B7.le (EW.et (ew_or (b := false) (c := false) (et_not (b := true) (et_val (ev_call2 (a := addF M N) (b := moreF D E2) (f := fun _ _ => true) Di (hr.mono (by decide)) (ev_ok (ok := subOk (tsF N) (tsF M)) (z := addF M N) (ev_callE2 (E := E0') (a := M) (b := N) Da (hr.mono (by decide)) passL' (ev_name 3 rfl hM7) (ev_name 5 rfl hN7) Bo_.ad) Bo_.adk) (ev_name 8 rfl hmo7) Bo_.ism))) fun _ => ew_or1 (et_not (b := true) (et_val (ev_call2 (a := takF M N) (b := moreF E2 D) (f := fun _ _ => true) Di (hr.mono (by decide)) (ev_ok (ok := subOk (tsF M) (tsF N)) (z := takF M N) (ev_callE2 (E := E0') (a := M) (b := N) Dt (hr.mono (by decide)) passL' (ev_name 3 rfl hM7) (ev_name 5 rfl hN7) Bo_.ta) Bo_.tak) (ev_name 9 rfl hle) Bo_.isl))))) (fun e => Bool.noConfusion e) fun _ Hf sf lf => ss_nil ?_)
    have B8 := B7.same1 sf
    -- added the other way, nothing of itself
    refine ss_cons (s_if (b := false) B8.le (EW.et (ew_or (b := false) (c := false) (et_not (b := true) (et_val (ev_call2 (a := takF M N) (b := moreF E2 D) (f := fun _ _ => true) Di (hr.mono (by decide)) (ev_ok (X := cxD P w F mg base NLaw "law" stLaw f cdv A outer s H E) (ok := subOk (tsF M) (tsF N)) (z := takF M N) (ev_callE2 (X := cxD P w F mg base NLaw "law" stLaw f cdv A outer s H E) (E := E0') (a := N) (b := M) Da (hr.mono (by decide)) passL' (ev_name 5 rfl hN7) (ev_name 3 rfl hM7) Bo_.ta) Bo_.tak) (ev_name 9 rfl hle) Bo_.isl))) fun _ => ew_or (b := false) (c := false) (ET.of (X := cxD P w F mg base NLaw "law" stLaw f cdv A outer s H E) (et_val (ev_boolI (X := cxD P w F mg base NLaw "law" stLaw f cdv A outer s H E) (fn := fun s : Sol => !s.2.isEmpty) (a := takF M M) B.bool BB.at_ BB.fn Fbo (hr.mono (by decide)) insR_sol (ev_ok (X := cxD P w F mg base NLaw "law" stLaw f cdv A outer s H E) (ok := subOk (tsF M) (tsF M)) (z := takF M M) (ev_callE2 (X := cxD P w F mg base NLaw "law" stLaw f cdv A outer s H E) (E := E0') (a := M) (b := M) Da (hr.mono (by decide)) passL' (ev_name 3 rfl hM7) (ev_name 3 rfl hM7) Bo_.sm) Bo_.smk) trivial)) (by rw [Bo_.sme]; rfl)) fun _ => ew_or1 (ET.of (X := cxD P w F mg base NLaw "law" stLaw f cdv A outer s H E) (et_val (ev_boolI (X := cxD P w F mg base NLaw "law" stLaw f cdv A outer s H E) (fn := fun s : Sol => !s.2.isEmpty) (a := takF N N) B.bool BB.at_ BB.fn Fbo (hr.mono (by decide)) insR_sol (ev_ok (X := cxD P w F mg base NLaw "law" stLaw f cdv A outer s H E) (ok := subOk (tsF N) (tsF N)) (z := takF N N) (ev_callE2 (X := cxD P w F mg base NLaw "law" stLaw f cdv A outer s H E) (E := E0') (a := N) (b := N) Dt (hr.mono (by decide)) passL' (ev_name 5 rfl hN7) (ev_name 5 rfl hN7) Bo_.sn) Bo_.snk) trivial)) (by rw [Bo_.sne]; rfl)))) (fun e => Bool.noConfusion e) fun _ Hg sg lg => ss_nil ?_)
    have B9 := B8.same1 sg
    refine ss_cons (s_if (b := false) B9.le (ET.of (X := cxD P w F mg base NLaw "law" stLaw f cdv A outer s H E) (et_neSol (X := cxD P w F mg base NLaw "law" stLaw f cdv A outer s H E) (r1 := rSol F CG) (pre := SameS) (fn := fun _ _ => true) (a := subF (orF (tsF M) (addF M N)) (takF M N)) (b := tsF N) EB Feq (hr.mono (by decide)) insR_sol (ev_ok (X := cxD P w F mg base NLaw "law" stLaw f cdv A outer s H E) (ok := subOk (orF (tsF M) (addF M N)) (takF M N)) (z := subF (orF (tsF M) (addF M N)) (takF M N)) (ev_binE (X := cxD P w F mg base NLaw "law" stLaw f cdv A outer s H E) (CT := CT) (E := E0') (C := CG) (pre := SubOk) (okf := subOk) (fn := subF) (a := orF (tsF M) (addF M N)) (b := takF M N) SB.first SB.at_ SB.fn Fsub (hr.mono (by decide)) passL' insR_sol insR_sol (ev_bin2 (X := cxD P w F mg base NLaw "law" stLaw f cdv A outer s H E) (C := CG) (pre := OrOk P w) (fn := orF) (a := tsF M) (b := addF M N) SB.first OB.at_ OB.fn Forr (hr.mono (by decide)) insR_sol insR_sol (ev_m1 (X := cxD P w F mg base NLaw "law" stLaw f cdv A outer s H E) (b := M) (fn := tsF) Cs.mkd.cl insR_mk mt Ft (hr.mono (by decide)) (ev_name 3 rfl hM7) Bo_.tm) (ev_ok (X := cxD P w F mg base NLaw "law" stLaw f cdv A outer s H E) (ok := subOk (tsF N) (tsF M)) (z := addF M N) (ev_callE2 (X := cxD P w F mg base NLaw "law" stLaw f cdv A outer s H E) (E := E0') (a := M) (b := N) Da (hr.mono (by decide)) passL' (ev_name 3 rfl hM7) (ev_name 5 rfl hN7) Bo_.ad) Bo_.adk) Bo_.or_) (ev_ok (X := cxD P w F mg base NLaw "law" stLaw f cdv A outer s H E) (ok := subOk (tsF M) (tsF N)) (z := takF M N) (ev_callE2 (X := cxD P w F mg base NLaw "law" stLaw f cdv A outer s H E) (E := E0') (a := M) (b := N) Dt (hr.mono (by decide)) passL' (ev_name 3 rfl hM7) (ev_name 5 rfl hN7) Bo_.ta) Bo_.tak) Bo_.s2) Bo_.s2k) (ev_m1 (X := cxD P w F mg base NLaw "law" stLaw f cdv A outer s H E) (b := N) (fn := tsF) Cs.mkd.cl insR_mk mt Ft (hr.mono (by decide)) (ev_name 5 rfl hN7) Bo_.tn) Bo_.eq) rfl) (fun e => Bool.noConfusion e) fun _ Hh sh lh => ss_nil ?_)
    have B10 := B9.same1 sh
    refine ss_one (s_if (b := false) B10.le (EW.et (ew_or (b := false) (c := false) (et_neBs (X := cxD P w F mg base NLaw "law" stLaw f cdv A outer s H E) (bs := sortK ltB (boxesF (tsF M))) hu64 (ev_sortB (X := cxD P w F mg base NLaw "law" stLaw f cdv A outer s H E) (bs := boxesF (tsF M)) hu32 Tx.bSorted (ev_m1 (X := cxD P w F mg base NLaw "law" stLaw f cdv A outer s H E) (b := tsF M) (fn := boxesF) Cs.og.cl insR_sol mb FB (hr.mono (by decide)) (ev_m1 (X := cxD P w F mg base NLaw "law" stLaw f cdv A outer s H E) (b := M) (fn := tsF) Cs.mkd.cl insR_mk mt Ft (hr.mono (by decide)) (ev_name 3 rfl hM7) Bo_.tm) Bo_.bm)) (ev_sortB (X := cxD P w F mg base NLaw "law" stLaw f cdv A outer s H E) (bs := boxesF (tsF M)) hu32 Tx.bSorted (ev_itL (X := cxD P w F mg base NLaw "law" stLaw f cdv A outer s H E) (l := [boxesF (tsF M), boxesF (tsF N)]) (j := 0) (ev_name 7 rfl hk7) ev_int rfl))) fun _ => ew_or1 (et_neBs (X := cxD P w F mg base NLaw "law" stLaw f cdv A outer s H E) (bs := sortK ltB (boxesF (tsF N))) hu64 (ev_sortB (X := cxD P w F mg base NLaw "law" stLaw f cdv A outer s H E) (bs := boxesF (tsF N)) hu32 Tx.bSorted (ev_m1 (X := cxD P w F mg base NLaw "law" stLaw f cdv A outer s H E) (b := tsF N) (fn := boxesF) Cs.og.cl insR_sol mb FB (hr.mono (by decide)) (ev_m1 (X := cxD P w F mg base NLaw "law" stLaw f cdv A outer s H E) (b := N) (fn := tsF) Cs.mkd.cl insR_mk mt Ft (hr.mono (by decide)) (ev_name 5 rfl hN7) Bo_.tn) Bo_.bn)) (ev_sortB (X := cxD P w F mg base NLaw "law" stLaw f cdv A outer s H E) (bs := boxesF (tsF N)) hu32 Tx.bSorted (ev_itL (X := cxD P w F mg base NLaw "law" stLaw f cdv A outer s H E) (l := [boxesF (tsF M), boxesF (tsF N)]) (j := 1) (ev_name 7 rfl hk7) ev_int rfl))))) (fun e => Bool.noConfusion e) fun _ Hi si li => ss_nil ?_)
    have B11 := B10.same1 si
    exact ⟨Ke, _, _, _, _, _, _, _, _, _, rfl, B11.less (by omega)⟩
  · rintro σ' H' ⟨K', x2, x3, x4, x5, x6, x7, x8, x9, x10, rfl, B⟩
    obtain ⟨fc, mc, kc, FC⟩ := Dc.ex
    refine ss_one (PS.to (ps_ret (pe_df mc kc FC hr passL' (paW _))) ?_)
    refine ea_1 (ev_name (K := K') (r := rVal) (a := .ref p) 1 rfl rfl) rfl H' B.le _ fun vs K9 H9 n9 ⟨v9, _, e1, hv9, e3⟩ => ?_
    subst e3; subst e1
    obtain rfl : v9 = .ref p := hv9
    have B1 := B.step n9
    exact ⟨K9, p, c, rfl, B1.n.in_, B1.pc, B1.pen.less (by omega), tabs.ext fun b o e => by
      have bp : b ≠ p := fun z => by subst z; rw [hpH] at e; cases e
      have := B1.s1 b o (sm1 b o e)
      rwa [era_ne bp] at this, fun H2 => q H2⟩
end
end SN
end TQLW

section TQRF
set_option Elab.async false
set_option linter.all false
set_option maxRecDepth 100000
set_option maxHeartbeats 4000017
/-! QRF: _law_refused: a call that may raise TooMany. -/
namespace PySem.W
open PySem PySem.Spec PySem.Calls PyProof.Rows
section
variable {K : Frag} {x t : Value} {S : Heap → Prop}
/-- isinstance says yes by the class alone -/
theorem yes_ans {c : Value} (ty : ∀ (M : Model) (h : Heap), K.In h → S h → Looks M h (typeOf x) t) (ne : (t == c) = false) (e : kitCls K t c = some true) : Answers (fun s => K.In s.heap ∧ S s.heap) x c true := by
  intro dep tk prog w A R s hs
  obtain ⟨h0, g, d, tt, os⟩ := s
  obtain ⟨⟨X, p⟩, hq⟩ := hs
  have LT := ty (model prog w) h0 X p
  obtain ⟨hty, his, hsub⟩ := kit_cls (M := model prog w) X e
  have LI : Looks (model prog w) h0 (isInstance x c) true := LT.andThen hsub
  unfold Builtin.«isinstance.nested»
  refine wpAny_bind (LT.at ?_)
  rw [if_neg (by rw [ne]; exact Bool.false_ne_true)]
  refine wpAny_bind (hty.at ?_)
  rw [if_pos (by decide)]
  k_delta "plainIsInstance"
  refine wpAny_bind (wpAny_bind (his.at ?_))
  simp only [Bool.not_true, Bool.false_eq_true, if_false]
  refine wpAny_bind (LI.at ?_)
  first
    | exact wpAny_pure (wpAny_pure (hq tt))
    | (simp only [if_true]; first | exact wpAny_pure (wpAny_pure (hq tt)) | exact wpAny_pure (hq tt) | exact wpAny_bind (wpAny_pure (wpAny_pure (hq tt))))
end
end PySem.W
namespace SN
open PySem PySem.Spec PyProof.Rows L2 NdefX
/-- isinstance(e, c), e the exception that the suite holds, of a class below c -/
theorem call_isY {X : Cx} {a D : Addr} {d : Option Addr} {oe : Obj} {pn : List (Addr × Obj)} {n : String} (hk : PySem.W.kitCls X.K (.ref D) (.type n) = some true) (hz : Zc (.ref D) d oe) (hf : ∃ vs, oe.data = .fields vs) :
    CallR (X.suite a ((a, oe) :: pn)) (.builtin "isinstance") (fun xs H Q => xs = [.ref a, .ty n] ∧ Q (.bl true) H) := by
  intro pins s σ H xs us Q I r h
  obtain ⟨rfl, q⟩ := h
  cases r with
  | cons rx rr =>
    cases rr with
    | cons rt rr =>
      cases rr
      cases rx
      obtain rfl := rt
      obtain ⟨hget, _⟩ := I.pin (a, oe) (List.mem_append.mpr (.inl List.mem_cons_self))
      obtain ⟨vs, hv⟩ := hf
      have ty : ∀ (M : Model) (h : Heap), X.K.In h → h.get? a = some oe → PySem.W.Looks M h (typeOf (.ref a)) (.ref D) := fun M h _ ho A Q E s k q => wpAny_typeOf_ref (k _ _ ho) (by rw [hz.1]; exact q)
      exact call_isinstance (S := fun _ R s => (X.K.In s.heap ∧ s.heap.get? a = some oe) ∧ ∀ tk, R (.ok (.ret (.bool true))) { s with toks := tk })
        (fun prog w A R s hs => isinstance_outer (PySem.W.yes_ans (S := fun h => h.get? a = some oe) ty rfl hk 0 _ prog w A R s hs) (fun z => nomatch z)) ⟨⟨I.kIn, hget⟩, fun tk => ⟨.bl true, H, I.kept (t' := tk) fun _ _ z => z, rfl, q⟩⟩
/-- what the module says of the caught class -/
structure RfF (F : PySem.W.Frag) (mg : Str → Option Value) (CT : Addr) : Prop where
  xf : XfC F CT
  no : PySem.W.findIn F (.ref CT) "limit" = some none
  kit : PySem.W.kitCls F (.ref CT) (.type "OverflowError") = some true
  exm : PySem.W.exmOne F (.ref CT) (.ref CT) = some true
  m : mg "TooMany" = some (.ref CT)
  ov : mg "OverflowError" = none
  isi : mg "isinstance" = none
abbrev stRef : Stmt := top 67
abbrev NRef : List Str := ["_law_call", "e"]
/-- what _law_refused makes of the reading of what it calls -/
def TTref (CT : Addr) : (XK → Hp → VK → Prop) → Hp → VK → Prop := fun tl H Q =>
  tl (fun cls dd H' => cls = .ref CT ∧ ∃ d, dd = some d ∧ H' d = some (.xd [("limit", .int 20)]) ∧ ∀ p, H' p = none → Q (.ref p) (upd H' p (.lst [.int 20, .bl true]))) H fun _ H' => Q .non H'
theorem refused_gives {X : Cx} {q : Str} {g CT : Addr} {cdg : Value} (T : RfF X.K X.mg CT) : LamX.GivesTo X NRef "_law_refused" (defScope stRef) g cdg (defBody stRef) "_law_call" q (TTref CT) := by
  intro f c' s H Q tl act hc h
  let Z : Cx := (cxOf C8.CX0 X.prog X.w X.K X.mg X.base NRef "_law_refused" (defScope stRef) g cdg X.A X.stack s H C8.E0).nox
  have hgl : Gl Z "TooMany" := rfl
  have hN : Z.N.Nodup := by show NRef.Nodup; decide +kernel
  let ts : Addr → Value → Option Addr → TS := fun a cls d D σ H => cls = .ref CT ∧ (1 < σ.length → σ[1]? = some (some (.ref a))) ∧ ∃ dd, d = some dd ∧ H dd = some (.xd [("limit", .int 20)]) ∧ ∀ p, H p = none → D.rt (.ref p) (upd H p (.lst [.int 20, .bl true]))
  refine ⟨_, pss_cons (ps_try_as (X := Z) (i := 1) (n := "e") (c := .ref CT) (x := "TooMany") (ts := ts)
      (tb := fun W D σ H => ∃ Ech : XK, (∀ cls d σ' H', Ech cls d H' → W cls d σ' H') ∧ σ[0]? = some (some (.ref f)) ∧ H c' = some (LamX.CodeO c' q) ∧ tl Ech H fun _ H' => D.nx σ H')
      rfl rfl hN rfl rfl ⟨hgl, by decide, .inl T.m⟩ LamX.takes0 (fun W pn xe tk _ => ?_)
      (fun a oe cls d pn hz hf => ?_)) (pss_one (ps_ret pe_non)), ?_⟩
  · refine ⟨fun pins s' σ H' D I h' => ?_⟩
    obtain ⟨Ech, hW, h1, h2, h3⟩ := h'
    have hp := act W pn xe Ech ⟨382, 8, 382, 17⟩ ⟨382, 8, 382, 19⟩ tk hW
    have hq := pss_one (ps_expr (pos := ⟨382, 8, 382, 19⟩) hp)
    exact hq.run pins s' σ H' D I ⟨h1, h2, h3⟩
  · refine ⟨fun pins s' σ H' D I h' => ?_⟩
    obtain ⟨rfl, h1, dd, rfl, h2, h3⟩ := h'
    have h1 := h1 (by rw [I.len]; show 1 < 2; decide)
    have e1 : ∀ pos, PE (Z.suite a ((a, oe) :: pn)) (.Name "e" pos) (tVar 1) := fun pos => pe_var rfl (Or.inl rfl)
    have e2 : ∀ pos, PE (Z.suite a ((a, oe) :: pn)) (.Name "OverflowError" pos) (tC (.ty "OverflowError")) := fun pos => pe_bltn (u := .type "OverflowError") rfl T.ov (by decide +kernel) rfl
    have e3 : ∀ pos, PE (Z.suite a ((a, oe) :: pn)) (.Attribute (.Name "e" pos) "limit" ⟨384, 16, 384, 23⟩) (tXf a (.ref CT) (some dd) CT "limit" (tVar 1)) := fun pos => pe_xf (X := Z) T.xf T.no hz hf (e1 pos)
    have e4 : ∀ p0 p1 p2 p3, PE (Z.suite a ((a, oe) :: pn)) (.Call (.Name "isinstance" p0) [.Name "e" p1, .Name "OverflowError" p2] [] p3) _ := fun p0 p1 p2 p3 => pe_callB (X := Z.suite a ((a, oe) :: pn)) (x := "isinstance") (call_isY (X := Z) T.kit hz hf) rfl T.isi (by decide +kernel) (pa_cons (e1 p1) (pa_cons (e2 p2) pa_nil))
    refine (pss_one (ps_ret (pe_lst (pa_cons (e3 _) (pa_cons (e4 _ _ _ _) pa_nil))))).run pins s' σ H' D I ?_
    exact ⟨_, h1, rfl, rfl, dd, _, .int 20, rfl, h2, rfl, _, h1, rfl, by show 2 ≤ sizeLine; rw [sizeLine_eq]; omega, h3⟩
  · exact ⟨_, fun cls d σ' H' ⟨e1, e2⟩ => ⟨true, by rw [e1]; exact T.exm, fun _ a _ => ⟨e1, fun hl => by rw [List.length_set] at hl; exact List.getElem?_set_self hl, e2⟩, fun z => Bool.noConfusion z⟩, rfl, hc, h⟩
end SN
end TQRF

section TQCB
set_option Elab.async false
set_option linter.all false
set_option maxRecDepth 100000
set_option maxHeartbeats 400017
/-! QCB: knowledge without tables; _law_refused(lambda: ..). -/
namespace SN
open PySem PySem.Spec PyProof.Rows L2 NdefX LamX
/-! ### all but the tables -/
def isTbl : HO → Bool
  | .tbl _ => true
  | _ => false
def noT (H : Hp) : Hp := fun a => match H a with
  | some o => if isTbl o = true then none else some o
  | none => none
theorem noT_of {H : Hp} {a : Addr} {o : HO} (h : H a = some o) (n : isTbl o = false) : noT H a = some o := by
  unfold noT; rw [h]; show (if isTbl o = true then none else some o) = some o
  rw [n]; rfl
theorem noT_inv {H : Hp} {a : Addr} {o : HO} (h : noT H a = some o) : H a = some o ∧ isTbl o = false := by
  unfold noT at h
  cases q : H a with
  | none => rw [q] at h; cases h
  | some u =>
    rw [q] at h
    have h : (if isTbl u = true then none else some u) = some o := h
    by_cases e : isTbl u = true
    · rw [if_pos e] at h; cases h
    · rw [if_neg e] at h; cases h; exact ⟨rfl, by simpa using e⟩
theorem noT_none {H : Hp} {a : Addr} (h : H a = none) : noT H a = none := by unfold noT; rw [h]
theorem isTbl_ne {o : HO} (h : isTbl o = false) (ps : Array Value) : o ≠ .tbl ps := fun z => by rw [z] at h; cases h
theorem le_noT {H : Hp} : Le (noT H) H := fun a c h => by
  unfold co at h ⊢
  cases q : noT H a with
  | none => rw [q] at h; cases h
  | some o => rw [q] at h; rw [(noT_inv q).1]; exact h
theorem le_noT2 {H H' : Hp} (e : ExtN H H') : Le (noT H) (noT H') := fun a c h => by
  unfold co at h ⊢
  cases q : noT H a with
  | none => rw [q] at h; cases h
  | some o =>
    rw [q] at h
    obtain ⟨h1, h2⟩ := noT_inv q
    rw [noT_of (e a o h1 (isTbl_ne h2)) h2]; exact h
theorem core_tbl {o : HO} (h : isTbl o = true) : isTbl (core o) = true := by
  cases o with
  | tbl ps => rfl
  | _ => cases h
theorem co_noT {K : Hp} {a : Addr} {c : HO} (h : co K a = some c) (n : isTbl c = false) : co (noT K) a = some c := by
  unfold co at h ⊢
  cases q : K a with
  | none => rw [q] at h; cases h
  | some o =>
    rw [q] at h
    have e : core o = c := Option.some.inj h
    have : isTbl o = false := by
      cases z : isTbl o with
      | false => rfl
      | true => rw [← e, core_tbl z] at n; cases n
    rw [noT_of q this]; exact h
/-- what asks for no table -/
def Stb {α : Type} (r : Rel α) : Prop := ∀ K v a, r.r K v a → r.r (noT K) v a
theorem stb_int : Stb rInt := fun _ _ _ h => h
theorem stb_bl : Stb rBl := fun _ _ _ h => h
theorem stb_str : Stb rStr := fun _ _ _ h => h
theorem stb_T {F : PySem.W.Frag} {K : Hp} {a : Addr} {xs : List V} (h : SqT F K a xs) : SqT F (noT K) a xs := by
  rcases h with h | h
  · left
    rcases h with h | ⟨ob, h⟩
    · exact .inl (noT_of h rfl)
    · exact .inr ⟨ob, noT_of h rfl⟩
  · exact .inr h
theorem stb_tupL {F : PySem.W.Frag} {α : Type} {r : Rel α} (s : Stb r) : Stb (rTupL F r) := fun K v l ⟨p, vs, e, h, q⟩ => ⟨p, vs, e, stb_T h, Paired.imp (fun _ _ z => s K _ _ z) q⟩
theorem stb_DC {α : Type} {r : Rel α} (s : Stb r) : Stb (rDC r) := fun K v l ⟨p, kvs, e, h, q⟩ => ⟨p, kvs, e, co_noT h rfl, Paired.imp (fun _ _ z => ⟨z.1, s K _ _ z.2⟩) q⟩
theorem stb_mk {K : Hp} {b : Addr} {k : Sq} (h : Mk K b k) : Mk (noT K) b k := by
  obtain ⟨c, h1, h2⟩ := h
  exact ⟨c, co_tup.mp (co_noT (co_tup.mpr h1) rfl), co_tup.mp (co_noT (co_tup.mpr h2) rfl)⟩
theorem stb_DN {P : Program} {w : World} {α : Type} {r : Rel α} (s : Stb r) : Stb (rDN P w r) := fun K v l ⟨p, xs, e, h, q⟩ => ⟨p, xs, e, co_noT h rfl, Paired.imp (fun _ _ ⟨a, b, v, c, d⟩ => ⟨a, stb_mk b, v, c, s K _ _ d⟩) q⟩
theorem stb_Mk {P : Program} {w : World} {F : PySem.W.Frag} {C : Addr} : Stb (rMk P w F C) := fun K v s ⟨p, dx, gl, gc, gm, e, h, h1, h2, h3⟩ => ⟨p, dx, gl, gc, gm, e, co_noT h rfl, stb_tupL (stb_tupL stb_int) _ _ _ h1, stb_DC stb_bl _ _ _ h2, stb_DN stb_str _ _ _ h3⟩
theorem stb_cell : Stb rCell := fun K v c ⟨p, e, h⟩ => ⟨p, e, co_noT h rfl⟩
/-- a step that may write the tables -/
structure GT (T : Tbl) (H H' : Hp) : Prop where
  ex : ExtN H H'
  tab : Tabs T H'
theorem GT.trans {T : Tbl} {H H1 H2 : Hp} (a : GT T H H1) (b : GT T H1 H2) : GT T H H2 := ⟨a.ex.trans b.ex, b.tab⟩
theorem GT.refl {T : Tbl} {H : Hp} (t : Tabs T H) : GT T H H := ⟨ExtN.refl H, t⟩
theorem GT.of {T : Tbl} {H H' : Hp} (t : Tabs T H) (s : Same H H') : GT T H H' := ⟨ExtN.of s, t.ext s⟩
theorem GT.nxt {T : Tbl} {K H K' H' : Hp} (t : Tabs T H) (n : Nxt K H K' H') : GT T H H' := GT.of t n.same
theorem GT.know {T : Tbl} {α : Type} {r : Rel α} {H H' : Hp} {v : V} {a : α} (g : GT T H H') (h : r.r (noT H) v a) : r.r (noT H') v a := r.mono (le_noT2 g.ex) h
theorem GT.lk {T : Tbl} {H H' : Hp} (g : GT T H H') : Lk H H' := fun d o u h => g.ex d _ h fun ps z => nomatch z
theorem Stb.know {α : Type} {r : Rel α} (s : Stb r) {K H : Hp} {v : V} {a : α} (l : Le K H) (h : r.r K v a) : r.r (noT H) v a := s H v a (r.mono l h)
/-! ### a def whose code object is told -/
structure FunC (F : PySem.W.Frag) (mg : Str → Option Value) (x : Str) (st : Stmt) (ps : List Str) (c : Addr) : Prop where
  ex : ∃ (f : Addr) (oc : Value) (od : Option Addr) (kV doc pm : Value) (an : Option Addr) (ct : Value) (osl : Array (Option Value)), F.lookup f = some ⟨oc, od, .func (PySem.W.fnOf x x (defArgs st) (defBody st) (defScope st) .none kV doc pm an (.ref c) ct), osl⟩ ∧
    PySem.W.codeIn F (.ref c) x = true ∧ PySem.W.keepIn F (.ref f) = true ∧ mg x = some (.ref f) ∧ Binds F (PySem.W.fnOf x x (defArgs st) (defBody st) (defScope st) .none kV doc pm an (.ref c) ct) ps []
section
variable {P : Program} {w : World} {F : PySem.W.Frag} {mg : Str → Option Value} {base : Heap}
theorem df_fnC {x : Str} {st : Stmt} {N ps : List Str} {k : Nat} {c : Addr} {sp : Sp} (G : FunC F mg x st ps c) (S : FnScope N ps (defScope st)) (len : ∀ vs H Q E, sp vs H Q E → vs.length = ps.length)
    (hbody : ∀ (X : Cx) (vs : List V) (H : Hp) (Q : VK) (E : XK) (f : Addr) (A : Around) (outer : List Env) (s : Shared), X = cxD P w F mg base N x st f (.ref c) A outer s H E → Room k X.A → sp vs H Q E →
      wSs X (defBody st) { nx := fun _ H' => Q .non H', rt := Q } (start N vs) H) : Df P w F mg base (k + 1) x sp := by
  obtain ⟨f, oc, od, kV, doc, pm, an, ct, osl, lk, hcd, hk, hm, hb⟩ := G.ex
  refine ⟨f, hm, hk, ?_⟩
  have z : FnOk P w F mg base (L2.CX P w) (k + 1) f _ ps sp := fn_of lk hcd S len fun A outer s H vs Q E hr h => ⟨_, pssW _, hbody _ vs H Q E f A outer s rfl hr h⟩
  exact (z.raw hb .nil).imp fun vs H Q E h => by rw [List.append_nil]; exact h
end
/-! ### the lambda's body: a call of two captured names -/
def tAdd {α : Type} (T : Tbl) (r : Rel α) (CT : Addr) (i j : Nat) (ok : Bool) (M N : α) (E : XK) : TE := fun σ H Q => ∃ va vb, σ[i]? = some (some va) ∧ σ[j]? = some (some vb) ∧ r.r (noT H) va M ∧ r.r (noT H) vb N ∧ (ok = true → ∀ v H', Same H H' → Q v H') ∧ (ok = false → Out CT (noT H) H E)
section
variable {X : Cx} {CT : Addr} {α β : Type} {r : Rel α} {rr : Rel β}
theorem passLam {A : Around} {outer : List Env} {s : Shared} {H : Hp} {E : XK} {scope : Scope} {f c' : Addr} : Passes (L2.CX X.prog X.w) (lamCx X A outer s H E scope f c') E := fun pins σ' => passAt (X := lamCx X A outer s H E scope f c') (W := fun cls d _ H => E cls d H) (takes_of (X := lamCx X A outer s H E scope f c') (E := E) (E₁ := fun e' s'' => L2.CX X.prog X.w outer H s E e' s'') rfl rfl rfl rfl) σ' pins
theorem lam_body {T : Tbl} {k i j : Nat} {x a b : Str} {p1 p2 p3 p4 : Pos} {pre : α → α → Prop} {okf : α → α → Bool} {fn : α → α → β} {M N : α} {scope : Scope} (D : DfX X k x (sp2E CT r r rr pre okf fn)) (hp : pre M N)
    (hi : X.N[i]? = some a) (hj : X.N[j]? = some b) (va : Vis scope a) (vb : Vis scope b) (hx : scope.names.lookup x = some .globalImplicit) (ha1 : (a == ("__debug__" : Str)) = false) (ha2 : (a == ("__classdict__" : Str)) = false) (hb1 : (b == ("__debug__" : Str)) = false) (hb2 : (b == ("__classdict__" : Str)) = false) (hx1 : (x == ("__debug__" : Str)) = false)
    (A : Around) (outer : List Env) (s : Shared) (H : Hp) (E : XK) (f c' : Addr) (hr : Room k (A.deeper (lamEnv X scope s.heap.objs.size f c'))) : PE (lamCx X A outer s H E scope f c') (.Call (.Name x p1) [.Name a p2, .Name b p3] [] p4) (tAdd T r CT i j (okf M N) M N E) := by
  refine ⟨fun pins s1 σ H1 Q I ⟨v1, v2, e1, e2, h1, h2, qt, qf⟩ => ?_⟩
  have hg : Gl (lamCx X A outer s H E scope f c') x := hx
  have n1 : EV (lamCx X A outer s H E scope f c') (.Name a p2) σ (noT H1) r M := ev_name i e1 h1 hi va ha1 ha2
  have n2 : EV (lamCx X A outer s H E scope f c') (.Name b p3) σ (noT H1) r N := ev_name j e2 h2 hj vb hb1 hb2
  have D' : DfX (lamCx X A outer s H E scope f c') k x (sp2E CT r r rr pre okf fn) := D
  have hr' : Room k (lamCx X A outer s H E scope f c').A := hr
  have z1 : starEach [.Name a p2, .Name b p3] (lamCx X A outer s H E scope f c').env = (false, eval (.Name a p2) (lamCx X A outer s H E scope f c').env) :: starEach [.Name b p3] (lamCx X A outer s H E scope f c').env := rfl
  have z2 : starEach [.Name b p3] (lamCx X A outer s H E scope f c').env = (false, eval (.Name b p3) (lamCx X A outer s H E scope f c').env) :: starEach [] (lamCx X A outer s H E scope f c').env := rfl
  have z3 : (backTo p4 (starEach [.Name b p3] (lamCx X A outer s H E scope f c').env)).any (·.1) = false := rfl
  have pl : Passes (L2.CX (lamCx X A outer s H E scope f c').prog (lamCx X A outer s H E scope f c').w) (lamCx X A outer s H E scope f c') E := passLam (X := X) (A := A) (outer := outer) (s := s) (H := H) (E := E) (scope := scope) (f := f) (c' := c')
  have ev : EVE (lamCx X A outer s H E scope f c') CT E (.Call (.Name x p1) [.Name a p2, .Name b p3] [] p4) σ (noT H1) (okf M N) rr (fn M N) := ev_callE2 (X := lamCx X A outer s H E scope f c') (K := noT H1) (pre := pre) (okf := okf) (f := fn) (a := M) (b := N) D' hr' pl n1 n2 hp hg hx1 z1 z2 z3
  exact ev H1 le_noT Q (fun ek v K' H' n _ => qt ek v H' n.same) qf pins s1 I
/-- _law_refused(lambda: x(a, b)) -/
theorem w_ref {T : Tbl} {k i j : Nat} {x a b : Str} {p1 p2 p3 p4 p5 p6 p7 : Pos} {pre : α → α → Prop} {okf : α → α → Bool} {fn : α → α → β} {M N : α} {scope : Scope} {params : Arguments} {c P : Addr} {va vb : V} {σ : L2.St} {H : Hp} {Q : VK}
    (R : RfF X.K X.mg CT) (G : FnF X.K X.mg "_law_refused" stRef ["_law_call"]) (D : DfX X k x (sp2E CT r r rr pre okf fn)) (hp : pre M N) (hr : Room (k + 2) X.A)
    (TB : TabB X.base X.mg c P) (hcode : X.env.code = .ref c) (hT : T = [(P, X.env.qual ++ "<lambda>")]) (L : LamS X.env.scope scope) (hdef : defaultsOf params X.env = ([], []))
    (hbind : ∀ (q : Str) (cl : List (Str × Addr)) (pm cv ctv : Value), bindArgs (PySem.W.kla_fn "<lambda>" q params (.Call (.Name x p1) [.Name a p2, .Name b p3] [] p4) scope cl pm cv ctv) ⟨[], []⟩ = pure [])
    (hi : X.N[i]? = some a) (hj : X.N[j]? = some b) (ea : σ[i]? = some (some va)) (eb : σ[j]? = some (some vb)) (ra : r.r (noT H) va M) (rb : r.r (noT H) vb N) (tabs : Tabs T H)
    (qt : okf M N = true → ∀ H', GT T H H' → Q .non H') (qf : okf M N = false → ∀ H' p, GT T H H' → H' p = none → Q (.ref p) (upd H' p (.lst [.int 20, .bl true])))
    (hg : Gl X "_law_refused" := by rfl) (vA : Vis scope a := by first | exact Or.inl rfl | exact Or.inr (Or.inl rfl) | exact Or.inr (Or.inr rfl)) (vB : Vis scope b := by first | exact Or.inl rfl | exact Or.inr (Or.inl rfl) | exact Or.inr (Or.inr rfl)) (hx : scope.names.lookup x = some .globalImplicit := by rfl)
    (ha1 : (a == ("__debug__" : Str)) = false := by decide) (ha2 : (a == ("__classdict__" : Str)) = false := by decide) (hb1 : (b == ("__debug__" : Str)) = false := by decide) (hb2 : (b == ("__classdict__" : Str)) = false := by decide) (hx1 : (x == ("__debug__" : Str)) = false := by decide) :
    wE X (.Call (.Name "_law_refused" p5) [.Lambda params (.Call (.Name x p1) [.Name a p2, .Name b p3] [] p4) scope p6] [] p7) σ H Q := by
  obtain ⟨g, fd, ⟨⟨oc, od, kV, doc, pm, an, cdv, ct, osl, rfl, lk, hcd⟩, hk⟩, hm, hb⟩ := G
  have Sg : FnScope NRef ["_law_call"] (defScope stRef) := ⟨rfl, rfl, rfl, by decide +kernel, rfl, by decide +kernel, by decide +kernel⟩
  have hm1 : (P, X.env.qual ++ ("<lambda>" : Str)) ∈ T := by rw [hT]; exact List.mem_singleton.mpr rfl
  have hu1 : ∀ p ∈ T, p.1 = P → p.2 = X.env.qual ++ ("<lambda>" : Str) := fun p hp _ => by rw [hT] at hp; rw [List.mem_singleton.mp hp]
  refine PE.to (pe_lamcall (T := T) (x := "_law_refused") (a := "_law_call") (Ng := NRef) (TT := TTref CT) (t := fun E => tAdd T r CT i j (okf M N) M N E) hg hm hk lk hcd hb Sg rfl (Or.inl rfl) (refused_gives R) TB hcode hm1 hu1 hr L hdef hbind (fun A outer s H E f c' hr2 => lam_body D hp hi hj vA vB hx ha1 ha2 hb1 hb2 hx1 A outer s H E f c' hr2)) ⟨tabs, fun H1 e1 t1 => ?_⟩
  have g1 : GT T H H1 := ⟨e1, t1⟩
  refine ⟨va, vb, ea, eb, g1.know ra, g1.know rb, fun ek v H' sm => qt ek H' (g1.trans (GT.of t1 sm)), fun ek K' H' d n hd => ⟨rfl, d, rfl, upd_same, fun p hp => ?_⟩⟩
  exact qf ek _ p ((g1.trans (GT.nxt t1 n)).trans (GT.of (t1.ext n.same) (same_new hd))) hp
end
end SN
end TQCB

section TQCC
set_option Elab.async false
set_option linter.all false
set_option maxRecDepth 100000
set_option maxHeartbeats 2000017
/-! QCC: _law_comb_right. -/
namespace SN
open PySem PySem.Spec PyProof.Rows L2 NdefX LamX
def barB (s : Int) : Box := ((0 - s, 0, 0), (30 * s, 1, 1))
def toothB (s : Int) (k : Nat) : Box := ((2 * (k : Int) * s, 0, 0), ((2 * (k : Int) + 1) * s, 1, 1))
def barM (s : Int) : Mkd := blkF (barB s) "bar"
def cmb (s : Int) : Nat → Mkd
  | 0 => noM
  | k + 1 => opF (cmb s k) (blkF (toothB s k) "a") "joined"
structure CombOk (P : Program) (w : World) (s : Int) : Prop where
  bar : BlkOk (barB s) "bar"
  tooth : ∀ k, k < 10 → BlkOk (toothB s k) "a" ∧ OpOk2 P w "joined" (cmb s k) (blkF (toothB s k) "a")
  a9 : DifOk (barM s) (cmb s 9) ∧ subOk (tsF (barM s)) (tsF (cmb s 9)) = true
  a10 : DifOk (barM s) (cmb s 10) ∧ subOk (tsF (barM s)) (tsF (cmb s 10)) = false
  ba : DifOk (cmb s 10) (barM s) ∧ subOk (tsF (cmb s 10)) (tsF (barM s)) = true ∧ (subF (tsF (cmb s 10)) (tsF (barM s))).2.isEmpty = true
def StepOk (s : Int) : Prop := (1 ≤ s ∧ s ≤ 9) ∨ s = 1 + 10 ^ 28
abbrev stCmb : Stmt := top 68
abbrev NCmb : List Str := ["_law_pen_here", "_law_step", "_law_comb", "_law_bar", "_law_k"]
theorem tabs_pen {T : Tbl} {H H' : Hp} {p : Addr} {l : List (Key × V)} (t : Tabs T H) (hp : H p = some (.dK l)) (k : ∀ b o, b ≠ p → H b = some o → H' b = some o) : Tabs T H' := fun x hx => by
  obtain ⟨ps, h1, h2, h3⟩ := t x hx
  refine ⟨ps, k _ _ (fun z => by rw [z, hp] at h1; cases h1) h1, h2, fun pos cv hc => ?_⟩
  obtain ⟨c, e1, e2⟩ := h3 pos cv hc
  refine ⟨c, e1, k _ _ (fun z => ?_) e2⟩
  rw [z, hp] at e2
  unfold CodeO at e2
  cases e2
section
variable {X : Cx}
/-- a loop over range(n), n written out -/
theorem s_forN {tg : Expr} {n : Nat} {m : Int} {p p2 rp pos : Pos} {body : List Stmt} {g : TG} {D : Ends} {σ : L2.St} {H : Hp} {jj : Nat} (hp : PassesOwn (model X.prog X.w) X.A X.env X.xe) (hc : X.calm = true) (hg : PG X tg g) (hm : X.mg "range" = none) (hn : m = (n : Int)) (hz : n < 1000)
    (Pv : Nat → L2.St → Hp → Prop) (h0 : Pv 0 σ H) (hs : ∀ i σ' H', i < n → Pv i σ' H' → g (.int (i : Int)) σ' H' fun σ2 H2 => wSs X body { D with nx := Pv (i + 1), ct := Pv (i + 1), bk := D.nx } σ2 H2) (hd : ∀ σ' H', Pv n σ' H' → D.nx σ' H')
    (hgl : Gl X "range" := by rfl) (hs2 : starEach [.Constant (.int m) jj p2] X.env = [(false, eval (.Constant (.int m) jj p2) X.env)] := by rfl)
    (hf : ∀ x, foldedSetIterable (.Call (.Name "range" p) [.Constant (.int m) jj p2] [] rp) X.env x = pure x := by intro _; rfl) : wS X (.For tg (.Call (.Name "range" p) [.Constant (.int m) jj p2] [] rp) body [] pos) D σ H := by
  subst hn
  refine PS.to (ps_for hp hc (pi_range1 hgl hm (pa_cons pe_int pa_nil) hs2) hg (pssW body) hf) ⟨(n : Int), rfl, by omega, by omega, ?_⟩
  rw [Int.toNat_natCast]
  exact for_it (walk_range (lo := 0)) Pv h0 (fun _ _ _ _ _ => trivial) (fun i x σ' H' H'' hi p y => by
    obtain ⟨e1, e2⟩ := y
    subst e1; subst e2
    show g (.int (0 + (i : Int))) _ _ _
    rw [Int.zero_add]
    exact hs i σ' H'' hi p) hd
end
theorem ss_gt {X : Cx} {T : Tbl} {st : Stmt} {rest : List Stmt} {D : Ends} {σ : L2.St} {H : Hp} (c : ∀ H3, GT T H H3 → wSs X rest D σ H3) (f : ∀ N : L2.St → Hp → Prop, (∀ H3, GT T H H3 → N σ H3) → wS X st { D with nx := N } σ H) : wSs X (st :: rest) D σ H := ss_cons (f _ c)
abbrev dat20 : PyData := .list [.int 20, .bool true]
theorem dat20_ok : SeqAt.shaped dat20 = true := by decide
theorem dp20 {F : PySem.W.Frag} {H : Hp} {p : Addr} (h : H p = some (.lst [.int 20, .bl true])) : Dp F H (.ref p) dat20 := .lst (SqL.of h) (.cons (.int _) (.cons (.bl _) .nil))
section
variable {P : Program} {w : World} {F : PySem.W.Frag} {mg : Str → Option Value} {base : Heap} {CS CG CM CT : Addr}
theorem df_comb {c Pt : Addr} {T : Tbl} (Tx : TX w F mg) (B : TB mg) (Cs : CsOk P w F mg CS CG CM CT) (Ds : DsOk P w F mg base CT) (Do : DoOk P w F mg base CM) (Mt : MtsOk F CM) (Bo : ∃ f, BoF F CG f) (R : RfF F mg CT)
    (Gr : FnF F mg "_law_refused" stRef ["_law_call"]) (Dn : Df P w F mg base 7 "nothing" (sp00 (rMk P w F CM) noM)) (Dk : Df P w F mg base 7 "block" (spBlk P w F CM)) (Da : Df P w F mg base 9 "added" (spAdded P w F CM CG CT)) (Dt : Df P w F mg base 9 "taken" (spTaken P w F CM CG CT))
    (Dd : Df P w F mg base 1 "_law_draw" (spDraw F)) (Dp : Df P w F mg base 2 "_law_pick" (spPick F)) (TBc : TabB base mg c Pt) (hT : T = [(Pt, (envOfC "_law_comb_right" (defScope stCmb) 0 0 .none).qual ++ "<lambda>")])
    (St : ∀ s, StepOk s → CombOk P w s) (G : FunC F mg "_law_comb_right" stCmb ["_law_pen_here"] c) : Df P w F mg base 12 "_law_comb_right" (spComb F T) := by
  have S : FnScope NCmb ["_law_pen_here"] (defScope stCmb) := ⟨rfl, rfl, rfl, by decide +kernel, rfl, by decide +kernel, by decide +kernel⟩
  refine df_fnC (N := NCmb) G S (fun vs H Q E ⟨K, p, c, e, _⟩ => by rw [e]; rfl) ?_
  rintro X _ H Q E f A outer s rfl hr ⟨K, p, pc, rfl, le, pk, pen, tabs, q⟩
  have hu := hu_of hr
  have hu64 : A.units + 3 + 64 < cLine := by have := hr.un; exact Nat.lt_of_le_of_lt (by show _ ≤ (A.units + 3) + 16 * 11 + 200; omega) this
  have B0 : PSt F K H K H p pc 5 K H := ⟨.refl le, Le.refl _, Lk.refl _, Same.refl _, pk, pen⟩
  obtain ⟨pl0, hd0⟩ := pen.obj
  obtain ⟨fp, mp, kp, FP⟩ := Dp.ex
  -- step
  refine ss_cons (PS.to (ps_set (i := 1) S.nd rfl (Or.inl rfl) (pe_op op_add (peW _) (pe_df mp kp FP (hr.mono (by decide)) passL' (pa_cons (peW _) (pa_cons (pe_lst (pa_cons (peW _) (pa_cons (peW _) (pa_cons (peW _) pa_nil)))) pa_nil))))) ?_)
  refine ev_int (K := K) H B0.le _ fun v1 Ka Ha na e1 => ?_
  obtain rfl : v1 = .int 1 := e1
  have B1 := B0.step na
  have hN0 : ∀ pos, EV (cxD P w F mg base NCmb "_law_comb_right" stCmb f (.ref c) A outer s H E) (.Name "_law_pen_here" pos) (start NCmb [.ref p]) Ka rVal (.ref p) := fun pos => ev_name 0 rfl rfl
  refine hN0 _ Ha B1.le _ fun v2 Kb Hb nb e2 => ?_
  obtain rfl : v2 = .ref p := e2
  have B2 := B1.step nb
  refine ev_int (K := Kb) Hb B2.le _ fun v3 Kc Hc nc e3 => ?_
  obtain rfl : v3 = .int 0 := e3
  have B3 := B2.step nc
  refine w_draw (K := Kc) (p := p) (m := 9) (k := 4) (c := pc) Dd (hr.mono (by decide)) B3.n.in_ B3.pc B3.pen (ev_name 0 rfl rfl) ev_int (by omega) (by omega) fun d Kd Hd nd pn4 d0 d9 => ?_
  have B4 := B3.draw nd pn4
  refine ev_powI (K := Kd) (i := 10) (j := 28) (by unfold CPow; decide) ev_int ev_int Hd B4.le _ fun v5 Ke He ne e5 => ?_
  obtain rfl : v5 = .int (10 ^ 28) := e5
  have B5 := B4.step ne
  refine ⟨by show 3 ≤ sizeLine; rw [sizeLine_eq]; omega, fun pl hpl => ?_⟩
  have nl : Nxt Ke He (upd Ke pl (.lst [.int 0, .int d, .int (10 ^ 28)])) (upd He pl (.lst [.int 0, .int d, .int (10 ^ 28)])) := .new B5.le hpl
  have B6 := B5.step nl
  refine ⟨_, p, .ref pl, 3, pc, [0, d, 10 ^ 28], rfl, B6.n.in_, B6.pc, B6.pen, ⟨pl, _, rfl, SqL.of upd_same, .cons rfl (.cons rfl (.cons rfl .nil))⟩, by show 1 ≤ 3; omega, by show 3 ≤ 1000; omega, fun z K7 H7 n7 pn7 hz => ?_⟩
  have B7 := B6.draw n7 pn7
  refine ⟨1, z, rfl, rfl, ?_⟩
  show wSs _ _ _ ((start NCmb [.ref p]).set 1 (some (.int (1 + z)))) H7
  have so : StepOk (1 + z) := by
    simp only [List.mem_cons, List.not_mem_nil, or_false] at hz
    rcases hz with rfl | rfl | rfl
    · exact .inl ⟨by omega, by omega⟩
    · exact .inl ⟨by omega, by omega⟩
    · exact .inr rfl
  have C := St _ so
  generalize 1 + z = sp at so C
  have tabs7 : Tabs T H7 := tabs_pen tabs hd0 fun b o bp e => by
    have := B7.s1 b o (by rw [era_ne bp]; exact e)
    rwa [era_ne bp] at this
  clear B0 B1 B2 B3 B4 B5 B6 B7 na nb nc nd ne nl n7 pn7 pn4
  have cm : ∀ (i j : Int), -100 < i → i < 100 → CMul i j := fun i j h1 h2 => .inl ⟨by omega, by omega⟩
  obtain ⟨fj, mj, gj⟩ := Mt.jo
  have Fj := fr_joined Tx Cs Ds Do Mt.op gj
  obtain ⟨fbo, BB⟩ := Bo
  have Fbo := fr_bool (P := P) (w := w) (base := base) B Cs.og BB.g
  -- comb, bar
  have hNo : ∀ pos pos2, EV (cxD P w F mg base NCmb "_law_comb_right" stCmb f (.ref c) A outer s H E) (.Call (.Name "nothing" pos) [] [] pos2) ((start NCmb [.ref p]).set 1 (some (.int sp))) (noT H7) (rMk P w F CM) noM := fun pos pos2 => ev_call00 Dn (hr.mono (by decide))
  refine ss_cons (s_asgG (g := gt2 F 2 3) (r := rTup2 F (rMk P w F CM) (rMk P w F CM)) (a := (noM, barM sp)) (pg_n2 2 3 rfl S.nd rfl rfl (Or.inr rfl) (Or.inr rfl) (Or.inl rfl) (Or.inl rfl)) (le_noT (H := H7)) (ev_tup2 (hNo _ _) (ev_call2 (a := barB sp) (b := ("bar" : Str)) Dk (hr.mono (by decide)) (ev_box (ev_cell (ev_sub ev_int (ev_name (a := sp) 1 rfl rfl)) ev_int ev_int) (ev_cell (ev_mul (i := 30) (j := sp) (cm 30 sp (by omega) (by omega)) ev_int (ev_name 1 rfl rfl)) ev_int ev_int)) ev_str C.bar)) fun v8 K8 H8 n8 ⟨pt, vc, vb, e8, hpt, hc, hb⟩ => ?_)
  subst e8
  refine gd_tup2 hpt gd_name gd_name H8 n8.in_ _ ?_
  have t8 : Tabs T H8 := tabs7.ext n8.same
  have hc8 := stb_Mk.know n8.in_ hc
  have hb8 := stb_Mk.know n8.in_ hb
  -- the ten teeth
  refine ss_cons (s_forN (n := 10) (g := gName 4) (passes_of rfl) rfl (pg_name (i := 4) S.nd rfl (Or.inl rfl)) Tx.bRange rfl (by decide) (fun i σ' H' => ∃ vc' x4, σ' = [some (.ref p), some (.int sp), some vc', some vb, x4] ∧ Tabs T H' ∧ (rMk P w F CM).r (noT H') vc' (cmb sp i) ∧ (rMk P w F CM).r (noT H') vb (barM sp)) ⟨vc, _, rfl, t8, hc8, hb8⟩ ?_ ?_)
  · rintro i σ' H' hi ⟨vc', x4, rfl, t', hc', hb'⟩
    show wSs _ _ _ [some (.ref p), some (.int sp), some vc', some vb, some (.int (i : Int))] _
    refine ss_gt (T := T) (fun H3 g3 => ?_) fun NX cont => PS.to (ps_if (PW.pt (pw_and (ptW _) (pw_and1 (pt_cmpR op_notN (peW _) pe_non (nomark _))))) (pssW _) (pssW _)) ?_
    · have hc3 := g3.know hc'
      have hb3 := g3.know hb'
      obtain ⟨bk, ok⟩ := C.tooth i hi
      refine ss_one (s_asg (i := 2) (r := rMk P w F CM) (a := opF (cmb sp i) (blkF (toothB sp i) "a") "joined") S.nd rfl (Or.inr rfl) (le_noT (H := H3)) (ev_m2 (b := cmb sp i) (a := blkF (toothB sp i) "a") (pre := OpOk2 P w "joined") (fn := fun M T => opF M T "joined") Cs.mkd.cl insR_mk mj Fj (hr.mono (by decide)) (ev_name 2 rfl hc3) (ev_call2 (a := toothB sp i) (b := ("a" : Str)) Dk (hr.mono (by decide)) (ev_box (ev_cell (ev_mul (i := 2 * (i : Int)) (j := sp) (cm _ _ (by omega) (by omega)) (ev_mul (i := 2) (j := (i : Int)) (cm _ _ (by omega) (by omega)) ev_int (ev_name 4 rfl rfl)) (ev_name 1 rfl rfl)) ev_int ev_int) (ev_cell (ev_mul (i := 2 * (i : Int) + 1) (j := sp) (cm _ _ (by omega) (by omega)) (ev_add (ev_mul (i := 2) (j := (i : Int)) (cm _ _ (by omega) (by omega)) ev_int (ev_name 4 rfl rfl)) ev_int) (ev_name 1 rfl rfl)) ev_int ev_int)) ev_str bk) ok) fun v9 K9 H9 n9 hv9 => ?_)
      have g9 := g3.trans (GT.nxt g3.tab n9)
      exact ⟨v9, _, rfl, g9.tab, stb_Mk.know n9.in_ hv9, g9.know hb'⟩
    have h9 : ∀ pos p1 p2 j, ET (cxD P w F mg base NCmb "_law_comb_right" stCmb f (.ref c) A outer s H E) (.Compare (.Name "_law_k" p1) [.Eq] [.Constant (.int 9) j p2] pos) [some (.ref p), some (.int sp), some vc', some vb, some (.int (i : Int))] (noT H') (decide ((i : Int) = 9)) := fun pos p1 p2 j => et_eqI (ev_name 4 rfl rfl) ev_int
    refine h9 _ _ _ _ H' le_noT _ fun H2 s2 => ?_
    have g2 : GT T H' H2 := GT.of t' s2
    by_cases i9 : i = 9
    · rw [decide_eq_true (show (i : Int) = 9 by omega)]
      refine iteT ?_
      subst i9
      refine w_ref (T := T) (k := 9) (CT := CT) (c := c) (P := Pt) (i := 2) (j := 3) (rr := rSol F CG) (pre := fun M N => DifOk N M) (okf := fun M N => subOk (tsF N) (tsF M)) (fn := fun M N => subF (tsF N) (tsF M)) (M := cmb sp 9) (N := barM sp) R Gr Da C.a9.1 hr TBc rfl hT (lamS_by (sc := defScope stCmb) (by decide +kernel)) rfl (fun _ _ _ _ _ => by with_unfolding_all rfl) rfl rfl rfl rfl (g2.know hc') (g2.know hb') g2.tab (fun _ H3 g3 => ?_) (fun z => Bool.noConfusion (C.a9.2.symm.trans z))
      exact ⟨rfl, _, rfl, iteF (ss_nil (cont H3 (g2.trans g3)))⟩
    · rw [decide_eq_false (show ¬ (i : Int) = 9 by omega)]
      exact iteF (iteF (ss_nil (cont H2 g2)))
  · rintro σ' H' ⟨vc', x4, rfl, t', hc', hb'⟩
    show wSs _ _ _ [some (.ref p), some (.int sp), some vc', some vb, x4] H'
    have l20 : ∀ {H : Hp} {q : Addr}, H q = none → L2.Dp F (upd H q (.lst [.int 20, .bl true])) (.ref q) dat20 := fun _ => dp20 upd_same
    have keep : ∀ {H : Hp} {q q2 : Addr} {o : HO}, H q2 = none → L2.Dp F H (.ref q) dat20 → H q = some (.lst [.int 20, .bl true]) → L2.Dp F (upd H q2 o) (.ref q) dat20 := fun h _ e => dp20 (by rw [upd_ne (ne_of_none e h)]; exact e)
    refine ss_gt (T := T) (fun H4 g4 => ?_) fun NX cont => PS.to (ps_if (pt_cmpR (op_neD hu64) (peW _) (pe_lst (pa_cons pe_int (pa_cons pe_bl pa_nil))) rfl) (pssW _) (pssW _)) ?_
    rotate_left
    · refine w_ref (T := T) (k := 9) (CT := CT) (c := c) (P := Pt) (i := 2) (j := 3) (rr := rSol F CG) (pre := fun M N => DifOk N M) (okf := fun M N => subOk (tsF N) (tsF M)) (fn := fun M N => subF (tsF N) (tsF M)) (M := cmb sp 10) (N := barM sp) R Gr Da C.a10.1 hr TBc rfl hT (lamS_by (sc := defScope stCmb) (by decide +kernel)) rfl (fun _ _ _ _ _ => by with_unfolding_all rfl) rfl rfl rfl rfl (hc') (hb') t' (fun z => Bool.noConfusion (C.a10.2.symm.trans z)) (fun _ H3 p3 g3 hp3 => ?_)
      refine ⟨by show 2 ≤ sizeLine; rw [sizeLine_eq]; omega, fun p4 hp4 => ⟨dat20, dat20, keep hp4 (l20 hp3) upd_same, l20 hp4, dat20_ok, dat20_ok, false, ?_, iteF (ss_nil (cont _ ?_))⟩⟩
      · rw [PySem.SeqAt.eqv_refl _ (PySem.SeqAt.canLay_of_shaped dat20_ok)]; rfl
      · exact (g3.trans (GT.of g3.tab (same_new hp3))).trans (GT.of (g3.tab.ext (same_new hp3)) (same_new hp4))
    have hc4 := g4.know hc'
    have hb4 := g4.know hb'
    refine ss_one (PS.to (ps_ret (pe_and (pe_cmpR (op_eqD hu64) (peW _) (pe_lst (pa_cons pe_int (pa_cons pe_bl pa_nil))) rfl) (pe_one (peW _)))) ?_)
    refine w_ref (T := T) (k := 9) (CT := CT) (c := c) (P := Pt) (i := 3) (j := 2) (rr := rSol F CG) (pre := DifOk) (okf := fun M N => subOk (tsF M) (tsF N)) (fn := fun M N => subF (tsF M) (tsF N)) (M := barM sp) (N := cmb sp 10) R Gr Dt C.a10.1 hr TBc rfl hT (lamS_by (sc := defScope stCmb) (by decide +kernel)) rfl (fun _ _ _ _ _ => by with_unfolding_all rfl) rfl rfl rfl rfl (hb4) (hc4) g4.tab (fun z => Bool.noConfusion (C.a10.2.symm.trans z)) (fun _ H3 p3 g3 hp3 => ?_)
    refine ⟨by show 2 ≤ sizeLine; rw [sizeLine_eq]; omega, fun p4 hp4 => ⟨dat20, dat20, keep hp4 (l20 hp3) upd_same, l20 hp4, dat20_ok, dat20_ok, true, ?_, iteT ?_⟩⟩
    · rw [PySem.SeqAt.eqv_refl _ (PySem.SeqAt.canLay_of_shaped dat20_ok)]
    have g5 := (g3.trans (GT.of g3.tab (same_new (o := .lst [.int 20, .bl true]) hp3))).trans (GT.of (g3.tab.ext (same_new (o := .lst [.int 20, .bl true]) hp3)) (same_new (o := .lst [.int 20, .bl true]) hp4))
    have hc5 := g5.know hc4
    have hb5 := g5.know hb4
    generalize upd (upd H3 p3 (.lst [.int 20, .bl true])) p4 (.lst [.int 20, .bl true]) = H5 at g5 hc5 hb5
    have hfin : ∀ p0 p1 p2 p3 p4, EV (cxD P w F mg base NCmb "_law_comb_right" stCmb f (.ref c) A outer s H E) (.UnaryOp .Not (.Call (.Name "added" p0) [.Name "_law_bar" p1, .Name "_law_comb" p2] [] p3) p4) [some (.ref p), some (.int sp), some vc', some vb, x4] (noT H5) rBl (!!(subF (tsF (cmb sp 10)) (tsF (barM sp))).2.isEmpty) := fun p0 p1 p2 p3 p4 =>
      ev_notI (X := cxD P w F mg base NCmb "_law_comb_right" stCmb f (.ref c) A outer s H E) (fn := fun s : Sol => !s.2.isEmpty) (a := subF (tsF (cmb sp 10)) (tsF (barM sp))) BB.at_ BB.fn Fbo (hr.mono (by decide)) insR_sol (ev_ok (X := cxD P w F mg base NCmb "_law_comb_right" stCmb f (.ref c) A outer s H E) (ok := subOk (tsF (cmb sp 10)) (tsF (barM sp))) (z := subF (tsF (cmb sp 10)) (tsF (barM sp))) (ev_callE2 (X := cxD P w F mg base NCmb "_law_comb_right" stCmb f (.ref c) A outer s H E) (E := E0') (a := barM sp) (b := cmb sp 10) Da (hr.mono (by decide)) passL' (ev_name 3 rfl hb5) (ev_name 2 rfl hc5) C.ba.1) C.ba.2.1) trivial
    refine hfin _ _ _ _ _ H5 le_noT _ fun v9 K9 H9 n9 e9 => ?_
    rw [C.ba.2.2] at e9
    obtain rfl : v9 = .bl true := e9
    exact q H9
end
end SN
end TQCC

section TMA
set_option Elab.async false
set_option linter.all false
/-! MA: plain mathematics: rising lists, places, dicts of puts. -/
namespace SN
open PySem

/-! ### rising lists -/
def Asc (l : List Int) : Prop := l.Pairwise (· < ·)
def cnt : List Int → Int → Nat
  | [], _ => 0
  | y :: l, x => (if y ≤ x then 1 else 0) + cnt l x
theorem cnt_cons (y : Int) (l : List Int) (x : Int) : cnt (y :: l) x = (if y ≤ x then 1 else 0) + cnt l x := rfl
theorem ixAt_cnt (l : List Int) (x : Int) : ixAt l x = (cnt l x : Int) - 1 := by
  unfold ixAt
  congr 1
  induction l with
  | nil => rfl
  | cons y l ih =>
    rw [List.map_cons, List.sum_cons, ih]
    rw [cnt_cons]
    unfold b01
    by_cases h : y ≤ x <;> simp [h]
theorem cnt_le (l : List Int) (x : Int) : cnt l x ≤ l.length := by
  induction l with
  | nil => exact Nat.le_refl _
  | cons y l ih => unfold cnt; rw [List.length_cons]; split <;> omega
theorem cnt_zero {l : List Int} {x : Int} (h : ∀ y ∈ l, x < y) : cnt l x = 0 := by
  induction l with
  | nil => rfl
  | cons y l ih =>
    unfold cnt
    have h1 := h y (List.mem_cons_self ..)
    rw [if_neg (by omega), ih fun z hz => h z (List.mem_cons_of_mem _ hz)]
theorem cnt_spec {l : List Int} (ha : Asc l) (x : Int) : ∀ i, i < l.length → (l.getD i 0 ≤ x ↔ i < cnt l x) := by
  induction l with
  | nil => intro i h; cases h
  | cons y l ih =>
    obtain ⟨h1, h2⟩ := List.pairwise_cons.mp ha
    intro i hi
    by_cases hy : y ≤ x
    · unfold cnt
      rw [if_pos hy]
      cases i with
      | zero => simp [hy]; omega
      | succ i =>
        have := ih h2 i (by simpa using hi)
        simp only [List.getD_cons_succ]
        rw [this]; omega
    · have z : cnt (y :: l) x = 0 := cnt_zero fun w hw => by
        rcases List.mem_cons.mp hw with e | e
        · subst e; omega
        · have := h1 w e; omega
      rw [z]
      cases i with
      | zero => simp; omega
      | succ i =>
        simp only [List.getD_cons_succ, Nat.not_lt_zero, iff_false]
        have hi' : i < l.length := by simpa using hi
        have e : l.getD i 0 = l[i] := by simp [List.getD, hi']
        rw [e]
        have := h1 _ (List.getElem_mem hi')
        omega
theorem cnt_congr {l : List Int} {x y : Int} (h : ∀ z ∈ l, z ≤ x ↔ z ≤ y) : cnt l x = cnt l y := by
  induction l with
  | nil => rfl
  | cons w l ih =>
    unfold cnt
    rw [ih fun z hz => h z (List.mem_cons_of_mem _ hz)]
    have := h w (List.mem_cons_self ..)
    by_cases e : w ≤ x
    · rw [if_pos e, if_pos (this.mp e)]
    · rw [if_neg e, if_neg fun z => e (this.mpr z)]
theorem ix_congr {l : List Int} {x y : Int} (h : ∀ z ∈ l, z ≤ x ↔ z ≤ y) : ixAt l x = ixAt l y := by
  rw [ixAt_cnt, ixAt_cnt, cnt_congr h]
theorem asc_lt {l : List Int} (ha : Asc l) {i j : Nat} (hi : i < j) (hj : j < l.length) : l.getD i 0 < l.getD j 0 := by
  have h1 : l.getD i 0 = l[i]'(by omega) := by simp [List.getD, (by omega : i < l.length)]
  have h2 : l.getD j 0 = l[j] := by simp [List.getD, hj]
  rw [h1, h2]
  exact List.pairwise_iff_getElem.mp ha i j (by omega) hj hi
theorem cnt_at {l : List Int} (ha : Asc l) {i : Nat} (hi : i < l.length) : cnt l (l.getD i 0) = i + 1 := by
  have h1 := (cnt_spec ha (l.getD i 0) i hi).mp (Int.le_refl _)
  have h2 := cnt_le l (l.getD i 0)
  rcases Nat.lt_or_ge (i + 1) (cnt l (l.getD i 0)) with h | h
  · have hl : i + 1 < l.length := by omega
    have := (cnt_spec ha (l.getD i 0) (i + 1) hl).mpr h
    have := asc_lt ha (Nat.lt_add_one i) hl
    omega
  · omega
theorem ix_at {l : List Int} (ha : Asc l) {i : Nat} (hi : i < l.length) : ixAt l (l.getD i 0) = i := by
  rw [ixAt_cnt, cnt_at ha hi]; omega
theorem mem_getD {l : List Int} {x : Int} (h : x ∈ l) : ∃ i, i < l.length ∧ l.getD i 0 = x := by
  obtain ⟨i, hi, e⟩ := List.mem_iff_getElem.mp h
  exact ⟨i, hi, by simp [List.getD, hi, e]⟩
theorem getD_mem {l : List Int} {i : Nat} (h : i < l.length) : l.getD i 0 ∈ l := by
  have e : l.getD i 0 = l[i] := by simp [List.getD, h]
  rw [e]; exact List.getElem_mem h
/-- an index that is one of an interval -/
def InR (l : List Int) (i : Int) : Prop := 0 ≤ i ∧ i + 1 < (l.length : Int)
theorem inR_iff {l : List Int} (ha : Asc l) (x : Int) : InR l (ixAt l x) ↔ (∃ y ∈ l, y ≤ x) ∧ ∃ y ∈ l, x < y := by
  rw [ixAt_cnt]
  unfold InR
  constructor
  · rintro ⟨h1, h2⟩
    have c0 : 0 < cnt l x := by omega
    have c1 : cnt l x < l.length := by omega
    refine ⟨⟨l.getD 0 0, getD_mem (by omega), (cnt_spec ha x 0 (by omega)).mpr c0⟩, l.getD (cnt l x) 0, getD_mem c1, ?_⟩
    have := (cnt_spec ha x (cnt l x) c1)
    omega
  · rintro ⟨⟨y, hy, h1⟩, z, hz, h2⟩
    obtain ⟨i, hi, rfl⟩ := mem_getD hy
    obtain ⟨j, hj, rfl⟩ := mem_getD hz
    have a1 := (cnt_spec ha x i hi).mp h1
    have a2 : ¬ j < cnt l x := fun h => by have := (cnt_spec ha x j hj).mpr h; omega
    omega
/-- the interval with an index has its lines -/
theorem ix_between {l : List Int} (ha : Asc l) {i : Int} (hi : InR l i) (x : Int) : ixAt l x = i ↔ l.getD i.toNat 0 ≤ x ∧ x < l.getD (i.toNat + 1) 0 := by
  obtain ⟨h1, h2⟩ := hi
  have a1 := cnt_spec ha x i.toNat (by omega)
  have a2 := cnt_spec ha x (i.toNat + 1) (by omega)
  have := cnt_le l x
  rw [ixAt_cnt]
  constructor
  · intro h
    refine ⟨a1.mpr (by omega), ?_⟩
    have : ¬ (i.toNat + 1 < cnt l x) := by omega
    have := fun z => this (a2.mp z)
    omega
  · rintro ⟨b1, b2⟩
    have c1 := a1.mp b1
    have c2 : ¬ (i.toNat + 1 < cnt l x) := fun z => by have := a2.mpr z; omega
    omega
theorem asc_ext {l m : List Int} (hl : Asc l) (hm : Asc m) (h : ∀ x, x ∈ l ↔ x ∈ m) : l = m := by
  have n1 : l.Nodup := hl.imp fun h => by omega
  have n2 : m.Nodup := hm.imp fun h => by omega
  exact List.Perm.eq_of_pairwise (fun a b _ _ x y => by omega) hl hm ((List.perm_ext_iff_of_nodup n1 n2).mpr h)
end SN
end TMA

section TMB
set_option Elab.async false
set_option linter.all false
/-! MB: plain mathematics: dicts of puts, places, triples, finer grids. -/
namespace SN
open PySem

/-! ### dicts of puts -/
section
variable {κ α : Type} [DecidableEq κ]
theorem dget_nil (k : κ) : dget ([] : List (κ × α)) k = none := rfl
theorem dget_app (l m : List (κ × α)) (k : κ) : dget (l ++ m) k = (dget l k).or (dget m k) := by
  unfold dget
  rw [List.find?_append]
  cases l.find? fun kv => decide (kv.1 = k) <;> rfl
theorem dget_one (x : κ × α) (k : κ) : dget [x] k = if x.1 = k then some x.2 else none := by
  unfold dget
  by_cases h : x.1 = k <;> simp [h]
theorem dget_dputs (k : κ) : ∀ (ys l : List (κ × α)), dget (dputs l ys) k = (dget ys.reverse k).or (dget l k)
  | [], l => by simp [dputs, dget]
  | y :: ys, l => by
    show dget (dputs (dput l y.1 y.2) ys) k = _
    rw [dget_dputs k ys, dget_put, List.reverse_cons, dget_app, dget_one, Option.or_assoc]
    congr 1
    by_cases h : k = y.1
    · rw [if_pos h, if_pos h.symm]; rfl
    · rw [if_neg h, if_neg fun z => h z.symm]; rfl
theorem dget_some {l : List (κ × α)} {k : κ} {a : α} (h : dget l k = some a) : (k, a) ∈ l := by
  unfold dget at h
  cases e : l.find? fun kv => decide (kv.1 = k) with
  | none => rw [e] at h; cases h
  | some x =>
    rw [e] at h
    have h1 := List.find?_some e
    have h2 := List.mem_of_find?_eq_some e
    obtain rfl : x.2 = a := Option.some.inj h
    obtain rfl : x.1 = k := of_decide_eq_true h1
    exact h2
theorem dputs_mem {ys : List (κ × α)} {k : κ} {a : α} (h : dget (dputs [] ys) k = some a) : (k, a) ∈ ys := by
  rw [dget_dputs, dget_nil, Option.or_none] at h
  exact List.mem_reverse.mp (dget_some h)
theorem dputs_isSome {ys : List (κ × α)} {k : κ} : (dget (dputs [] ys) k).isSome = true ↔ k ∈ ys.map (·.1) := by
  rw [dget_dputs, dget_nil, Option.or_none, dget_mem, List.map_reverse, List.mem_reverse]
theorem dputs_keys {ys : List (κ × α)} {k : κ} : k ∈ (dputs [] ys).map (·.1) ↔ k ∈ ys.map (·.1) := by
  rw [← dget_mem, dputs_isSome]
theorem dput_keys_nodup {l : List (κ × α)} (h : (l.map (·.1)).Nodup) (k : κ) (a : α) : ((dput l k a).map (·.1)).Nodup := by
  unfold dput
  split
  · rename_i e
    have : (l.map fun kv => if kv.1 = k then (kv.1, a) else kv).map (·.1) = l.map (·.1) := by
      rw [List.map_map]
      refine List.map_congr_left fun x _ => ?_
      show (if x.1 = k then (x.1, a) else x).1 = x.1
      split <;> rfl
    rw [this]; exact h
  · rename_i e
    rw [List.map_append]
    refine List.nodup_append.mpr ⟨h, by simp, fun x hx y hy z => e ?_⟩
    obtain rfl : y = k := by simpa using hy
    obtain ⟨kv, hkv, e1⟩ := List.mem_map.mp hx
    exact List.any_eq_true.mpr ⟨kv, hkv, by simp [e1, z]⟩
theorem dputs_nodup : ∀ (ys l : List (κ × α)), (l.map (·.1)).Nodup → ((dputs l ys).map (·.1)).Nodup
  | [], l, h => h
  | y :: ys, l, h => dputs_nodup ys _ (dput_keys_nodup h y.1 y.2)
theorem dputs_nd (ys : List (κ × α)) : ((dputs [] ys).map (·.1)).Nodup := dputs_nodup ys [] (by simp)
/-- all puts of a key are by one function -/
theorem dget_fun {ys : List (κ × α)} {f : κ → α} (h : ∀ x ∈ ys, x.2 = f x.1) {k : κ} (hk : k ∈ ys.map (·.1)) : dget (dputs [] ys) k = some (f k) := by
  have := dputs_isSome.mpr hk
  cases e : dget (dputs [] ys) k with
  | none => rw [e] at this; cases this
  | some a => rw [← h _ (dputs_mem e)]
theorem dget_not {ys : List (κ × α)} {k : κ} (hk : k ∉ ys.map (·.1)) : dget (dputs [] ys) k = none := by
  cases e : dget (dputs [] ys) k with
  | none => rfl
  | some a => exact absurd (dputs_isSome.mp (by rw [e]; rfl)) hk
end
theorem asc_mem {xs : List Int} {x : Int} : x ∈ asc xs ↔ x ∈ xs := by
  unfold asc
  rw [(sortZ_perm _).mem_iff, dputs_keys, List.map_map]
  simp [Function.comp_def]
theorem sortZ_asc {l : List Int} (h : l.Nodup) : Asc (sortZ l) := by
  have h1 := sortZ_sorted l
  have h2 := (sortZ_perm l).nodup_iff.mpr h
  unfold Asc
  exact (List.pairwise_and_iff.mpr ⟨h1, h2⟩).imp fun ⟨a, b⟩ => by omega
theorem asc_asc (xs : List Int) : Asc (asc xs) := sortZ_asc (dputs_nd _)
theorem idx_mem {α : Type} {xs : List α} {z : Int × α} : z ∈ idx xs ↔ ∃ i : Nat, xs[i]? = some z.2 ∧ z.1 = i := by
  constructor
  · intro h
    obtain ⟨i, hi, e⟩ := List.mem_iff_getElem.mp h
    rw [idx_length] at hi
    have := idx_get (xs := xs) (i := i) (a := xs[i]) (by simp [hi])
    rw [List.getElem?_eq_getElem (by rw [idx_length]; exact hi), e] at this
    obtain rfl := Option.some.inj this
    exact ⟨i, by simp [hi], rfl⟩
  · rintro ⟨i, h1, h2⟩
    have := List.mem_of_getElem? (idx_get h1)
    rw [← h2] at this
    exact this
theorem plc_eq {l : List Int} (ha : Asc l) {x : Int} (hx : x ∈ l) : dget (placeF l) x = some (ixAt l x) := by
  unfold placeF
  refine dget_fun (f := fun x => ixAt l x) (fun z hz => ?_) ?_
  · obtain ⟨y, hy, rfl⟩ := List.mem_map.mp hz
    obtain ⟨i, h1, h2⟩ := idx_mem.mp hy
    obtain ⟨hi, e⟩ := List.getElem?_eq_some_iff.mp h1
    have e2 : l.getD i 0 = y.2 := by simp [List.getD, h1]
    show y.1 = ixAt l y.2
    rw [← e2, ix_at ha hi, h2]
  · rw [List.map_map]
    obtain ⟨i, hi, e⟩ := List.mem_iff_getElem.mp hx
    exact List.mem_map.mpr ⟨((i : Int), x), idx_mem.mpr ⟨i, by simp [hi, e], rfl⟩, rfl⟩
theorem plc_ix {l : List Int} (ha : Asc l) {x : Int} (hx : x ∈ l) : plc l x = ixAt l x := by
  unfold plc
  rw [plc_eq ha hx]; rfl
/-! ### triples and blocks -/
theorem mem_triples {xs ys zs : List Int} {c : Cell} : c ∈ triplesF xs ys zs ↔ c.1 ∈ xs ∧ c.2.1 ∈ ys ∧ c.2.2 ∈ zs := by
  unfold triplesF
  simp only [List.mem_flatMap, List.mem_map]
  constructor
  · rintro ⟨i, hi, j, hj, k, hk, rfl⟩; exact ⟨hi, hj, hk⟩
  · rintro ⟨h1, h2, h3⟩; exact ⟨_, h1, _, h2, _, h3, rfl⟩
theorem triples_len (xs ys zs : List Int) : (triplesF xs ys zs).length = xs.length * (ys.length * zs.length) := by
  unfold triplesF
  induction xs with
  | nil => simp
  | cons x xs ih =>
    rw [List.flatMap_cons, List.length_append, ih, List.length_cons, Nat.succ_mul, Nat.add_comm]
    congr 1
    clear ih
    induction ys with
    | nil => simp
    | cons y ys ih2 => rw [List.flatMap_cons, List.length_append, ih2, List.length_map, List.length_cons, Nat.succ_mul, Nat.add_comm]
theorem parts_len (a b : List Int) : (partsF a b).length = a.length - 1 := by
  unfold partsF; simp
theorem parts_get {a b : List Int} {i : Nat} (h : i + 1 < a.length) : (partsF a b).getD i [] = rng (plc b (a.getD i 0)) (plc b (a.getD (i + 1) 0)) := by
  unfold partsF
  have e1 : (a.zip (a.drop 1))[i]? = some (a.getD i 0, a.getD (i + 1) 0) := by
    rw [List.getElem?_zip_eq_some]
    refine ⟨by simp [List.getD, (by omega : i < a.length)], ?_⟩
    rw [List.getElem?_drop]
    simp [List.getD, Nat.add_comm 1 i, h]
  rw [List.getD, List.getElem?_map, e1]; rfl
/-- the part of an interval: the finer intervals in it -/
theorem parts_mem {a b : List Int} (ha : Asc a) (hb : Asc b) (sub : ∀ x ∈ a, x ∈ b) {i : Int} (hi : InR a i) {d : Int} : d ∈ (partsF a b).getD i.toNat [] ↔ InR b d ∧ ixAt a (b.getD d.toNat 0) = i := by
  have hi' := hi
  obtain ⟨h1, h2⟩ := hi'
  rw [parts_get (by omega), mem_rng]
  have m1 : a.getD i.toNat 0 ∈ b := sub _ (getD_mem (by omega))
  have m2 : a.getD (i.toNat + 1) 0 ∈ b := sub _ (getD_mem (by omega))
  obtain ⟨u, hu, eu⟩ := mem_getD m1
  obtain ⟨v, hv, ev⟩ := mem_getD m2
  rw [← eu, ← ev, plc_ix hb (getD_mem hu), plc_ix hb (getD_mem hv), ix_at hb hu, ix_at hb hv]
  constructor
  · rintro ⟨q1, q2⟩
    have r : InR b d := ⟨by omega, by omega⟩
    refine ⟨r, (ix_between ha hi _).mpr ?_⟩
    rw [← eu, ← ev]
    constructor
    · rcases Nat.lt_or_ge u d.toNat with h | h
      · exact Int.le_of_lt (asc_lt hb h (by obtain ⟨_, r2⟩ := r; omega))
      · have : u = d.toNat := by omega
        rw [this]; exact Int.le_refl _
    · exact asc_lt hb (by omega) hv
  · rintro ⟨⟨r1, r2⟩, e⟩
    obtain ⟨q1, q2⟩ := (ix_between ha hi _).mp e
    rw [← eu] at q1
    rw [← ev] at q2
    constructor
    · rcases Nat.lt_or_ge d.toNat u with h | h
      · have := asc_lt hb h hu; omega
      · omega
    · rcases Nat.lt_or_ge d.toNat v with h | h
      · omega
      · rcases Nat.lt_or_ge v d.toNat with h3 | h3
        · have := asc_lt hb h3 (by omega : d.toNat < b.length); omega
        · have : v = d.toNat := by omega
          rw [this] at q2; omega
end SN
end TMB

section TMC
set_option Elab.async false
set_option linter.all false
set_option maxRecDepth 100000
set_option maxHeartbeats 1000017
/-! MC: plain: cells by axes, grids, what a solid holds, finer grids. -/
namespace SN
open PySem

theorem lt3 {j : Nat} (h : j < 3) : j = 0 ∨ j = 1 ∨ j = 2 := by omega
theorem axOf_ext {c d : Cell} (h : ∀ j < 3, axOf c j = axOf d j) : c = d := by
  obtain ⟨c0, c1, c2⟩ := c
  obtain ⟨d0, d1, d2⟩ := d
  have h0 : c0 = d0 := h 0 (by decide)
  have h1 : c1 = d1 := h 1 (by decide)
  have h2 : c2 = d2 := h 2 (by decide)
  rw [h0, h1, h2]
theorem axOf_set {c : Cell} {j k : Nat} {x : Int} (hj : j < 3) (hk : k < 3) : axOf (setAx c j x) k = if k = j then x else axOf c k := by
  rcases lt3 hj with rfl | rfl | rfl <;> rcases lt3 hk with rfl | rfl | rfl <;> rfl
theorem axOf_set_same {c : Cell} {j : Nat} {x : Int} (hj : j < 3) : axOf (setAx c j x) j = x := by rw [axOf_set hj hj, if_pos rfl]
theorem axOf_set_ne {c : Cell} {j k : Nat} {x : Int} (hj : j < 3) (hk : k < 3) (h : k ≠ j) : axOf (setAx c j x) k = axOf c k := by rw [axOf_set hj hk, if_neg h]
theorem set_set {c : Cell} {j : Nat} {x y : Int} (hj : j < 3) : setAx (setAx c j x) j y = setAx c j y := by
  rcases lt3 hj with rfl | rfl | rfl <;> rfl
theorem set_self {c : Cell} {j : Nat} (hj : j < 3) : setAx c j (axOf c j) = c := by
  rcases lt3 hj with rfl | rfl | rfl <;> rfl
theorem axOf_ixC {ls : Lines} {p : Cell} {j : Nat} (hj : j < 3) : axOf (ixC ls p) j = ixAt (ls.getD j []) (axOf p j) := by
  rcases lt3 hj with rfl | rfl | rfl <;> rfl
theorem ixC_set {ls : Lines} {p : Cell} {j : Nat} {x : Int} (hj : j < 3) : ixC ls (setAx p j x) = setAx (ixC ls p) j (ixAt (ls.getD j []) x) := by
  rcases lt3 hj with rfl | rfl | rfl <;> rfl
/-! ### sides -/
theorem stp_cases (s : Side) : stp s = -1 ∨ stp s = 1 := by
  unfold stp; split <;> simp
theorem beside_eq (c : Cell) (s : Side) : beside c s = if stp s = 1 then axOf c (ax s) + 1 else axOf c (ax s) := by
  unfold beside
  rcases stp_cases s with h | h <;> rw [h] <;> simp
theorem axOf_nb {c : Cell} {s : Side} {k : Nat} (hk : k < 3) : axOf (nb c s) k = if k = ax s then axOf c k + stp s else axOf c k := by
  unfold nb
  rw [axOf_set (ax_lt s) hk]
  by_cases h : k = ax s
  · rw [if_pos h, if_pos h, h]
  · rw [if_neg h, if_neg h]
theorem opp_ax : ∀ s : Side, ax (opp s) = ax s := by decide
theorem opp_stp : ∀ s : Side, stp (opp s) = - stp s := by decide
theorem nb_opp (c : Cell) (s : Side) : nb (nb c s) (opp s) = c := by
  refine axOf_ext fun k hk => ?_
  rw [axOf_nb hk, axOf_nb hk, opp_ax, opp_stp]
  by_cases h : k = ax s
  · rw [if_pos h, if_pos h]; omega
  · rw [if_neg h, if_neg h]
theorem side_of : ∀ j : Nat, j < 3 → (∃ s : Side, ax s = j ∧ stp s = 1) ∧ ∃ s : Side, ax s = j ∧ stp s = -1 := by decide
theorem mem_sidesOf {j : Nat} {s : Side} : s ∈ sidesOf j ↔ ax s = j := by
  unfold sidesOf
  rw [List.mem_filter]
  constructor
  · rintro ⟨_, h⟩; simpa using h
  · intro h; exact ⟨mem_allS s, by simpa using h⟩
/-! ### grids -/
structure G3 (ls : Lines) : Prop where
  len : ls.length = 3
  asc : ∀ j < 3, Asc (ls.getD j [])
def InC (ls : Lines) (c : Cell) : Prop := ∀ j < 3, InR (ls.getD j []) (axOf c j)
def Sem (ls : Lines) (ks : List Cell) (p : Cell) : Prop := ixC ls p ∈ ks
theorem axOf_low {ls : Lines} {c : Cell} {j : Nat} (hj : j < 3) : axOf (lowF ls c) j = (ls.getD j []).getD (axOf c j).toNat 0 := by
  rcases lt3 hj with rfl | rfl | rfl <;> rfl
theorem axOf_high {ls : Lines} {c : Cell} {j : Nat} (hj : j < 3) : axOf (highF ls c) j = (ls.getD j []).getD (axOf c j + 1).toNat 0 := by
  rcases lt3 hj with rfl | rfl | rfl <;> rfl
theorem ixC_low {ls : Lines} {c : Cell} (g : G3 ls) (h : InC ls c) : ixC ls (lowF ls c) = c := by
  refine axOf_ext fun j hj => ?_
  obtain ⟨h1, h2⟩ := h j hj
  rw [axOf_ixC hj, axOf_low hj, ix_at (g.asc j hj) (by omega)]
  omega
theorem sem_low {ls : Lines} {ks : List Cell} {c : Cell} (g : G3 ls) (h : InC ls c) : Sem ls ks (lowF ls c) ↔ c ∈ ks := by
  unfold Sem; rw [ixC_low g h]
def Sub3 (a b : Lines) : Prop := ∀ j < 3, ∀ x ∈ a.getD j [], x ∈ b.getD j []
theorem le_of_ix {l : List Int} (hl : Asc l) {x y z : Int} (h : ixAt l x = ixAt l y) (hz : z ∈ l) : z ≤ x ↔ z ≤ y := by
  rw [ixAt_cnt, ixAt_cnt] at h
  obtain ⟨i, hi, rfl⟩ := mem_getD hz
  rw [cnt_spec hl x i hi, cnt_spec hl y i hi]
  omega
theorem ix_refine {a b : List Int} (hb : Asc b) (sub : ∀ x ∈ a, x ∈ b) {x y : Int} (h : ixAt b x = ixAt b y) : ixAt a x = ixAt a y := ix_congr fun z hz => le_of_ix hb h (sub z hz)
theorem inR_refine {a b : List Int} (ha : Asc a) (hb : Asc b) (sub : ∀ x ∈ a, x ∈ b) {x : Int} (h : InR a (ixAt a x)) : InR b (ixAt b x) := by
  obtain ⟨⟨y, h1, h2⟩, z, h3, h4⟩ := (inR_iff ha x).mp h
  exact (inR_iff hb x).mpr ⟨⟨y, sub y h1, h2⟩, z, sub z h3, h4⟩
theorem inC_refine {a b : Lines} (ha : G3 a) (hb : G3 b) (sub : Sub3 a b) {p : Cell} (h : InC a (ixC a p)) : InC b (ixC b p) := fun j hj => by
  have := h j hj
  rw [axOf_ixC hj] at this ⊢
  exact inR_refine (ha.asc j hj) (hb.asc j hj) (sub j hj) this
theorem ixC_refine {a b : Lines} (hb : G3 b) (sub : Sub3 a b) {p q : Cell} (h : ixC b p = ixC b q) : ixC a p = ixC a q := by
  refine axOf_ext fun j hj => ?_
  rw [axOf_ixC hj, axOf_ixC hj]
  refine ix_refine (hb.asc j hj) (sub j hj) ?_
  rw [← axOf_ixC hj, ← axOf_ixC hj, h]
/-! ### finer cells -/
theorem zip_getD {a b : Lines} (ha : a.length = 3) (hb : b.length = 3) {j : Nat} (hj : j < 3) : (insF a b).getD j [] = partsF (a.getD j []) (b.getD j []) := by
  match a, b, ha, hb with
  | [a0, a1, a2], [b0, b1, b2], _, _ => rcases lt3 hj with rfl | rfl | rfl <;> rfl
theorem mem_block {a b : Lines} (ga : G3 a) (gb : G3 b) (sub : Sub3 a b) {c d : Cell} (hc : InC a c) : d ∈ blockF (insF a b) c ↔ InC b d ∧ ixC a (lowF b d) = c := by
  unfold blockF
  rw [mem_triples, zip_getD ga.len gb.len (by decide), zip_getD ga.len gb.len (by decide), zip_getD ga.len gb.len (by decide)]
  have h := fun j hj => parts_mem (d := axOf d j) (ga.asc j hj) (gb.asc j hj) (sub j hj) (hc j hj)
  constructor
  · rintro ⟨h0, h1, h2⟩
    have q : ∀ j < 3, InR (b.getD j []) (axOf d j) ∧ ixAt (a.getD j []) ((b.getD j []).getD (axOf d j).toNat 0) = axOf c j := fun j hj => by
      rcases lt3 hj with rfl | rfl | rfl
      · exact (h 0 hj).mp h0
      · exact (h 1 hj).mp h1
      · exact (h 2 hj).mp h2
    exact ⟨fun j hj => (q j hj).1, axOf_ext fun j hj => by rw [axOf_ixC hj, axOf_low hj]; exact (q j hj).2⟩
  · rintro ⟨h1, h2⟩
    have q : ∀ j < 3, ixAt (a.getD j []) ((b.getD j []).getD (axOf d j).toNat 0) = axOf c j := fun j hj => by
      rw [← h2, axOf_ixC hj, axOf_low hj]
    exact ⟨(h 0 (by decide)).mpr ⟨h1 0 (by decide), q 0 (by decide)⟩, (h 1 (by decide)).mpr ⟨h1 1 (by decide), q 1 (by decide)⟩, (h 2 (by decide)).mpr ⟨h1 2 (by decide), q 2 (by decide)⟩⟩
def WF (ls : Lines) (ks : List Cell) : Prop := ∀ c ∈ ks, InC ls c
theorem coarseE_val {a b : Lines} (ga : G3 a) (gb : G3 b) (sub : Sub3 a b) {ks : List Cell} (wf : WF a ks) {x : Cell × Cell} : x ∈ coarseE a b ks ↔ x.2 ∈ ks ∧ InC b x.1 ∧ ixC a (lowF b x.1) = x.2 := by
  unfold coarseE
  simp only [List.mem_flatMap, List.mem_singleton]
  constructor
  · rintro ⟨c, hc, d, hd, rfl⟩
    exact ⟨hc, (mem_block ga gb sub (wf c hc)).mp hd⟩
  · rintro ⟨h1, h2⟩
    exact ⟨x.2, h1, x.1, (mem_block ga gb sub (wf _ h1)).mpr h2, rfl⟩
theorem coarse_keys {a b : Lines} (ga : G3 a) (gb : G3 b) (sub : Sub3 a b) {ks : List Cell} (wf : WF a ks) {d : Cell} : d ∈ keyL (coarseF a ks b) ↔ InC b d ∧ ixC a (lowF b d) ∈ ks := by
  unfold keyL coarseF
  rw [dputs_keys, List.mem_map]
  constructor
  · rintro ⟨x, hx, rfl⟩
    obtain ⟨h1, h2, h3⟩ := (coarseE_val ga gb sub wf).mp hx
    exact ⟨h2, by rw [h3]; exact h1⟩
  · rintro ⟨h1, h2⟩
    exact ⟨(d, ixC a (lowF b d)), (coarseE_val ga gb sub wf).mpr ⟨h2, h1, rfl⟩, rfl⟩
theorem coarse_get {a b : Lines} (ga : G3 a) (gb : G3 b) (sub : Sub3 a b) {ks : List Cell} (wf : WF a ks) {d : Cell} (hd : d ∈ keyL (coarseF a ks b)) : dget (coarseF a ks b) d = some (ixC a (lowF b d)) := by
  unfold keyL coarseF at hd
  rw [dputs_keys] at hd
  exact dget_fun (f := fun d => ixC a (lowF b d)) (fun x hx => ((coarseE_val ga gb sub wf).mp hx).2.2.symm) hd
theorem coarse_wf {a b : Lines} (ga : G3 a) (gb : G3 b) (sub : Sub3 a b) {ks : List Cell} (wf : WF a ks) : WF b (keyL (coarseF a ks b)) := fun d hd => ((coarse_keys ga gb sub wf).mp hd).1
theorem coarse_nd {a b : Lines} {ks : List Cell} : (keyL (coarseF a ks b)).Nodup := dputs_nd _
theorem coarse_sem {a b : Lines} (ga : G3 a) (gb : G3 b) (sub : Sub3 a b) {ks : List Cell} (wf : WF a ks) {p : Cell} : Sem b (keyL (coarseF a ks b)) p ↔ Sem a ks p := by
  unfold Sem
  rw [coarse_keys ga gb sub wf]
  constructor
  · rintro ⟨h1, h2⟩
    rwa [ixC_refine gb sub (ixC_low gb h1)] at h2
  · intro h
    have h1 := inC_refine ga gb sub (wf _ h)
    refine ⟨h1, ?_⟩
    rwa [ixC_refine gb sub (ixC_low gb h1)]
end SN
end TMC

section TMD
set_option Elab.async false
set_option linter.all false
set_option maxRecDepth 100000
set_option maxHeartbeats 1000017
/-! MD: plain: simplified keeps what is held. -/
namespace SN
open PySem

structure SimpH (ls : Lines) (cs : Cells) (l : Marks) : Prop where
  g : G3 ls
  wf : WF ls (keyL cs)
  mks : ∀ q ∈ l.map (·.1), q.1 ∈ keyL cs
theorem keyL_mem {α : Type} {l : List (Cell × α)} {c : Cell} : (dget l c).isSome = true ↔ c ∈ keyL l := dget_mem
theorem mem_need1 {cs : Cells} {j : Nat} {n : Int} : n ∈ (need1 cs j).map (·.1) ↔ ∃ c ∈ keyL cs, ∃ s : Side, ax s = j ∧ nb c s ∉ keyL cs ∧ n = beside c s := by
  unfold need1
  rw [List.mem_map]
  constructor
  · rintro ⟨x, hx, rfl⟩
    obtain ⟨c, hc, h1⟩ := List.mem_flatMap.mp hx
    obtain ⟨s, hs, h2⟩ := List.mem_flatMap.mp h1
    by_cases e : (!(dget cs (nb c s)).isSome) = true
    · rw [if_pos e] at h2
      rw [List.mem_singleton.mp h2]
      refine ⟨c, hc, s, mem_sidesOf.mp hs, fun z => ?_, rfl⟩
      rw [keyL_mem.mpr z] at e; cases e
    · rw [if_neg e] at h2; cases h2
  · rintro ⟨c, hc, s, hs, hn, rfl⟩
    refine ⟨(beside c s, true), List.mem_flatMap.mpr ⟨c, hc, List.mem_flatMap.mpr ⟨s, mem_sidesOf.mpr hs, ?_⟩⟩, rfl⟩
    rw [if_pos]
    · exact List.mem_singleton.mpr rfl
    · cases e : (dget cs (nb c s)).isSome with
      | false => rfl
      | true => exact absurd (keyL_mem.mp e) hn
theorem mem_need2 {l : Marks} {j : Nat} {n : Int} (h : n ∈ (need2 l j).map (·.1)) : ∃ q ∈ l.map (·.1), ∃ s : Side, ax s = j ∧ n = beside q.1 s := by
  unfold need2 at h
  obtain ⟨x, hx, rfl⟩ := List.mem_map.mp h
  obtain ⟨q, hq, h1⟩ := List.mem_flatMap.mp hx
  obtain ⟨s, hs, h2⟩ := List.mem_flatMap.mp h1
  by_cases e : markTest l j q s = true
  · rw [if_pos e] at h2
    rw [List.mem_singleton.mp h2]
    exact ⟨q, hq, s, mem_sidesOf.mp hs, rfl⟩
  · rw [if_neg e] at h2; cases h2
theorem mem_needed {cs : Cells} {l : Marks} {j : Nat} {n : Int} : n ∈ neededF cs l j ↔ n ∈ (need1 cs j).map (·.1) ∨ n ∈ (need2 l j).map (·.1) := by
  unfold neededF
  rw [(sortZ_perm _).mem_iff, dputs_keys, List.map_append, List.mem_append]
theorem needed_asc (cs : Cells) (l : Marks) (j : Nat) : Asc (neededF cs l j) := sortZ_asc (dputs_nd _)
theorem beside_cases (c : Cell) (s : Side) : beside c s = axOf c (ax s) ∨ beside c s = axOf c (ax s) + 1 := by
  rw [beside_eq]; split <;> simp
theorem needed_at {cs : Cells} {l : Marks} {j : Nat} {n : Int} (mk : ∀ q ∈ l.map (·.1), q.1 ∈ keyL cs) (h : n ∈ neededF cs l j) : ∃ c ∈ keyL cs, n = axOf c j ∨ n = axOf c j + 1 := by
  rcases mem_needed.mp h with h | h
  · obtain ⟨c, hc, s, rfl, _, rfl⟩ := mem_need1.mp h
    exact ⟨c, hc, beside_cases c s⟩
  · obtain ⟨q, hq, s, rfl, rfl⟩ := mem_need2 h
    exact ⟨q.1, mk q hq, beside_cases q.1 s⟩
section
variable {ls : Lines} {cs : Cells} {l : Marks}
theorem needed_range (H : SimpH ls cs l) {j : Nat} (hj : j < 3) {n : Int} (h : n ∈ neededF cs l j) : 0 ≤ n ∧ n.toNat < (ls.getD j []).length := by
  obtain ⟨c, hc, e⟩ := needed_at H.mks h
  obtain ⟨h1, h2⟩ := H.wf c hc j hj
  omega
/-- where no line is needed nothing changes -/
theorem nochg {c : Cell} {s : Side} (hc : c ∈ keyL cs) (h : beside c s ∉ neededF cs l (ax s)) : nb c s ∈ keyL cs := by
  by_cases e : nb c s ∈ keyL cs
  · exact e
  · exact absurd (mem_needed.mpr (.inl (mem_need1.mpr ⟨c, hc, s, rfl, e, rfl⟩))) h
theorem nb_up {c : Cell} {s : Side} (h : stp s = 1) : nb c s = setAx c (ax s) (axOf c (ax s) + 1) := by unfold nb; rw [h]
theorem nb_down {c : Cell} {s : Side} (h : stp s = -1) : nb c s = setAx c (ax s) (axOf c (ax s) - 1) := by unfold nb; rw [h]; rfl
theorem walk_up {c : Cell} {j : Nat} (hj : j < 3) (hc : c ∈ keyL cs) : ∀ t : Nat, (∀ n ∈ neededF cs l j, ¬ (axOf c j < n ∧ n ≤ axOf c j + t)) → setAx c j (axOf c j + t) ∈ keyL cs
  | 0, _ => by
    have : axOf c j + ((0 : Nat) : Int) = axOf c j := by omega
    rw [this, set_self hj]; exact hc
  | t + 1, h => by
    have ih := walk_up hj hc t fun n hn z => h n hn ⟨z.1, by push_cast; omega⟩
    obtain ⟨⟨s, hs, h1⟩, _⟩ := side_of j hj
    subst hs
    have := nochg (l := l) (s := s) ih (fun z => by
      rw [beside_eq, if_pos h1, axOf_set_same hj] at z
      exact h _ z ⟨by omega, by push_cast; omega⟩)
    rw [nb_up h1, set_set hj, axOf_set_same hj] at this
    have e : axOf c (ax s) + ((t + 1 : Nat) : Int) = axOf c (ax s) + (t : Int) + 1 := by push_cast; omega
    rw [e]; exact this
theorem walk_down {c : Cell} {j : Nat} (hj : j < 3) (hc : c ∈ keyL cs) : ∀ t : Nat, (∀ n ∈ neededF cs l j, ¬ (axOf c j - t < n ∧ n ≤ axOf c j)) → setAx c j (axOf c j - t) ∈ keyL cs
  | 0, _ => by
    have : axOf c j - ((0 : Nat) : Int) = axOf c j := by omega
    rw [this, set_self hj]; exact hc
  | t + 1, h => by
    have ih := walk_down hj hc t fun n hn z => h n hn ⟨by push_cast; omega, z.2⟩
    obtain ⟨_, s, hs, h1⟩ := side_of j hj
    subst hs
    have := nochg (l := l) (s := s) ih (fun z => by
      rw [beside_eq, if_neg (by rw [h1]; decide), axOf_set_same hj] at z
      exact h _ z ⟨by push_cast; omega, by omega⟩)
    rw [nb_down h1, set_set hj, axOf_set_same hj] at this
    have e : axOf c (ax s) - ((t + 1 : Nat) : Int) = axOf c (ax s) - (t : Int) - 1 := by push_cast; omega
    rw [e]; exact this
theorem walk1 {c : Cell} {j : Nat} (hj : j < 3) (hc : c ∈ keyL cs) {y : Int} (h : ∀ n ∈ neededF cs l j, n ≤ axOf c j ↔ n ≤ y) : setAx c j y ∈ keyL cs := by
  rcases Int.le_total (axOf c j) y with e | e
  · have := walk_up (l := l) hj hc (y - axOf c j).toNat fun n hn z => by have := h n hn; omega
    rwa [show axOf c j + ((y - axOf c j).toNat : Int) = y by omega] at this
  · have := walk_down (l := l) hj hc (axOf c j - y).toNat fun n hn z => by have := h n hn; omega
    rwa [show axOf c j - ((axOf c j - y).toNat : Int) = y by omega] at this
/-- the needed indexes, as lines -/
def Nl (cs : Cells) (l : Marks) : Lines := [neededF cs l 0, neededF cs l 1, neededF cs l 2]
theorem Nl_at {j : Nat} (hj : j < 3) : (Nl cs l).getD j [] = neededF cs l j := by rcases lt3 hj with rfl | rfl | rfl <;> rfl
theorem Nl_g : G3 (Nl cs l) := ⟨rfl, fun j hj => by rw [Nl_at hj]; exact needed_asc cs l j⟩
theorem walk3 {c d : Cell} (hc : c ∈ keyL cs) (h : ixC (Nl cs l) c = ixC (Nl cs l) d) : d ∈ keyL cs := by
  have q : ∀ j < 3, ∀ n ∈ neededF cs l j, n ≤ axOf c j ↔ n ≤ axOf d j := fun j hj n hn => by
    refine le_of_ix (needed_asc cs l j) ?_ hn
    rw [← Nl_at hj, ← axOf_ixC hj, ← axOf_ixC hj, h]
  have h0 := walk1 (l := l) (by decide : 0 < 3) hc (q 0 (by decide))
  have h1 := walk1 (l := l) (by decide : 1 < 3) h0 (y := axOf d 1) (q 1 (by decide))
  have h2 := walk1 (l := l) (by decide : 2 < 3) h1 (y := axOf d 2) (q 2 (by decide))
  exact h2
theorem needed_low (H : SimpH ls cs l) {c : Cell} (hc : c ∈ keyL cs) {j : Nat} (hj : j < 3) : ∃ n ∈ neededF cs l j, n ≤ axOf c j := by
  refine Classical.byContradiction fun z => ?_
  have h := walk_down (l := l) hj hc ((axOf c j).toNat + 1) fun n hn y => z ⟨n, hn, y.2⟩
  have := (H.wf _ h j hj).1
  rw [axOf_set_same hj] at this
  push_cast at this
  have := (H.wf c hc j hj).1
  omega
theorem needed_high (H : SimpH ls cs l) {c : Cell} (hc : c ∈ keyL cs) {j : Nat} (hj : j < 3) : ∃ n ∈ neededF cs l j, axOf c j < n := by
  refine Classical.byContradiction fun z => ?_
  have h := walk_up (l := l) hj hc (ls.getD j []).length fun n hn y => z ⟨n, hn, y.1⟩
  have := (H.wf _ h j hj).2
  rw [axOf_set_same hj] at this
  have := (H.wf c hc j hj).1
  omega
theorem needed_in (H : SimpH ls cs l) {c : Cell} (hc : c ∈ keyL cs) : InC (Nl cs l) (ixC (Nl cs l) c) := fun j hj => by
  rw [axOf_ixC hj, Nl_at hj]
  exact (inR_iff (needed_asc cs l j) _).mpr ⟨needed_low H hc hj, needed_high H hc hj⟩
end
/-! ### new indexes -/
theorem newIxE_mem {N : List Int} (hN : Asc N) {x : Int × Int} : x ∈ newIxE N ↔ InR N x.2 ∧ ixAt N x.1 = x.2 := by
  unfold newIxE
  rw [List.mem_flatMap]
  have key : ∀ (i : Nat), i + 1 < N.length → (N.zip (N.drop 1))[i]? = some (N.getD i 0, N.getD (i + 1) 0) := fun i h => by
    rw [List.getElem?_zip_eq_some]
    refine ⟨by simp [List.getD, (by omega : i < N.length)], ?_⟩
    rw [List.getElem?_drop]
    simp [List.getD, Nat.add_comm 1 i, h]
  have len : (N.zip (N.drop 1)).length = N.length - 1 := by simp
  constructor
  · rintro ⟨z, hz, h1⟩
    obtain ⟨i, h2, h3⟩ := idx_mem.mp hz
    have hi : i + 1 < N.length := by
      have := (List.getElem?_eq_some_iff.mp h2).1
      rw [len] at this; omega
    rw [key i hi] at h2
    have h2 := Option.some.inj h2
    obtain ⟨y, hy, h4⟩ := List.mem_flatMap.mp h1
    rw [List.mem_singleton.mp h4]
    have r : InR N z.1 := ⟨by omega, by omega⟩
    refine ⟨r, (ix_between hN r y).mpr ?_⟩
    rw [← h2] at hy
    have := mem_rng.mp hy
    rw [h3]
    exact this
  · rintro ⟨r, h⟩
    obtain ⟨h1, h2⟩ := (ix_between hN r x.1).mp h
    obtain ⟨r1, r2⟩ := r
    refine ⟨(x.2, (N.getD x.2.toNat 0, N.getD (x.2.toNat + 1) 0)), idx_mem.mpr ⟨x.2.toNat, key _ (by omega), by show x.2 = _; omega⟩, List.mem_flatMap.mpr ⟨x.1, mem_rng.mpr ⟨h1, h2⟩, List.mem_singleton.mpr rfl⟩⟩
theorem newIx_get {N : List Int} (hN : Asc N) {x : Int} (h : InR N (ixAt N x)) : dget (newIxF N) x = some (ixAt N x) :=
  dget_fun (f := fun x => ixAt N x) (fun z hz => ((newIxE_mem hN).mp hz).2.symm) (List.mem_map.mpr ⟨(x, ixAt N x), (newIxE_mem hN).mpr ⟨h, rfl⟩, rfl⟩)
section
variable {ls : Lines} {cs : Cells} {l : Marks}
theorem mvF_eq (H : SimpH ls cs l) {c : Cell} (hc : c ∈ keyL cs) : mvF cs l c = ixC (Nl cs l) c := by
  have h := needed_in H hc
  have q : ∀ j < 3, ixOf cs l j (axOf c j) = ixAt (neededF cs l j) (axOf c j) := fun j hj => by
    unfold ixOf
    have := h j hj
    rw [axOf_ixC hj, Nl_at hj] at this
    rw [newIx_get (needed_asc cs l j) this]; rfl
  exact axOf_ext fun j hj => by
    rw [axOf_ixC hj, Nl_at hj, ← q j hj]
    rcases lt3 hj with rfl | rfl | rfl <;> rfl
theorem moved_get {c : Cell} (hc : c ∈ keyL cs) : dget (movedF cs l) c = some (mvF cs l c) := by
  unfold movedF
  refine dget_fun (f := mvF cs l) (fun x hx => ?_) ?_
  · obtain ⟨c, _, rfl⟩ := List.mem_map.mp hx; rfl
  · rw [List.map_map]
    exact List.mem_map.mpr ⟨c, hc, rfl⟩
theorem mvd_ix (H : SimpH ls cs l) {c : Cell} (hc : c ∈ keyL cs) : mvd cs l c = ixC (Nl cs l) c := by
  unfold mvd
  rw [moved_get hc, ← mvF_eq H hc]; rfl
theorem cells_keys (H : SimpH ls cs l) {d : Cell} : d ∈ keyL (cellsF cs l) ↔ ∃ c ∈ keyL cs, ixC (Nl cs l) c = d := by
  unfold cellsF
  show d ∈ (dputs [] _).map (·.1) ↔ _
  rw [dputs_keys, List.map_map, List.mem_map]
  constructor
  · rintro ⟨c, hc, rfl⟩
    exact ⟨c, hc, (mvd_ix H hc).symm⟩
  · rintro ⟨c, hc, rfl⟩
    exact ⟨c, hc, mvd_ix H hc⟩
theorem cells_nd : (keyL (cellsF cs l)).Nodup := dputs_nd _
theorem few_at {j : Nat} (hj : j < 3) : (fewestF ls cs l).getD j [] = (neededF cs l j).map fun n => (ls.getD j []).getD n.toNat 0 := by
  have e : fewestF ls cs l = [fewRow ls cs l 0, fewRow ls cs l 1, fewRow ls cs l 2] := by unfold fewestF; rw [rng3]; rfl
  rw [e]
  rcases lt3 hj with rfl | rfl | rfl <;> rfl
theorem few_g (H : SimpH ls cs l) : G3 (fewestF ls cs l) := by
  refine ⟨fewest_len ls cs l, fun j hj => ?_⟩
  rw [few_at hj]
  unfold Asc
  rw [List.pairwise_map]
  refine List.Pairwise.imp_of_mem (fun {a b} ha hb hab => ?_) (needed_asc cs l j)
  have r1 := needed_range H hj ha
  have r2 := needed_range H hj hb
  exact asc_lt (H.g.asc j hj) (by omega) r2.2
theorem few_ix (H : SimpH ls cs l) {j : Nat} (hj : j < 3) (x : Int) : ixAt ((fewestF ls cs l).getD j []) x = ixAt (neededF cs l j) (ixAt (ls.getD j []) x) := by
  rw [few_at hj, ixAt_cnt, ixAt_cnt (neededF cs l j)]
  congr 2
  have key : ∀ n ∈ neededF cs l j, ((ls.getD j []).getD n.toNat 0 ≤ x ↔ n ≤ ixAt (ls.getD j []) x) := fun n hn => by
    have r := needed_range H hj hn
    rw [cnt_spec (H.g.asc j hj) x n.toNat r.2, ixAt_cnt]
    omega
  revert key
  generalize neededF cs l j = N
  intro key
  induction N with
  | nil => rfl
  | cons n N ih =>
    rw [List.map_cons, cnt_cons, cnt_cons, ih fun m hm => key m (List.mem_cons_of_mem _ hm)]
    have := key n (List.mem_cons_self ..)
    by_cases e : (ls.getD j []).getD n.toNat 0 ≤ x
    · rw [if_pos e, if_pos (this.mp e)]
    · rw [if_neg e, if_neg fun z => e (this.mpr z)]
theorem few_ixC (H : SimpH ls cs l) (p : Cell) : ixC (fewestF ls cs l) p = ixC (Nl cs l) (ixC ls p) := axOf_ext fun j hj => by
  rw [axOf_ixC hj, few_ix H hj, axOf_ixC hj, axOf_ixC hj, Nl_at hj]
theorem few_inC {c : Cell} : InC (fewestF ls cs l) c ↔ InC (Nl cs l) c := by
  unfold InC
  refine forall_congr' fun j => forall_congr' fun hj => ?_
  rw [few_at hj, Nl_at hj]
  unfold InR
  rw [List.length_map]
theorem simp_wf (H : SimpH ls cs l) : WF (fewestF ls cs l) (keyL (cellsF cs l)) := fun d hd => by
  obtain ⟨c, hc, rfl⟩ := (cells_keys H).mp hd
  exact few_inC.mpr (needed_in H hc)
theorem simp_sem (H : SimpH ls cs l) {p : Cell} : Sem (fewestF ls cs l) (keyL (cellsF cs l)) p ↔ Sem ls (keyL cs) p := by
  unfold Sem
  rw [cells_keys H, few_ixC H]
  constructor
  · rintro ⟨c, hc, e⟩
    exact walk3 hc e
  · intro h
    exact ⟨_, h, rfl⟩
end
end SN
end TMD

section TME
set_option Elab.async false
set_option linter.all false
set_option maxRecDepth 100000
set_option maxHeartbeats 1000017
/-! ME: plain: the least grid is told by what is held; sizes. -/
namespace SN
open PySem

theorem ix_pred {l : List Int} (hl : Asc l) {i : Nat} (hi : i < l.length) : ixAt l (l.getD i 0 - 1) = (i : Int) - 1 := by
  rw [ixAt_cnt]
  have h1 := cnt_spec hl (l.getD i 0 - 1)
  have h2 := cnt_le l (l.getD i 0 - 1)
  have : cnt l (l.getD i 0 - 1) = i := by
    rcases Nat.lt_trichotomy (cnt l (l.getD i 0 - 1)) i with h | h | h
    · have := (h1 _ (by omega : cnt l (l.getD i 0 - 1) < l.length)).mp (by have := asc_lt hl h hi; omega)
      omega
    · exact h
    · have := (h1 i hi).mpr h; omega
  rw [this]
theorem ix_same {l : List Int} {x : Int} (h : x ∉ l) : ixAt l (x - 1) = ixAt l x := ix_congr fun z hz => by
  have : z ≠ x := fun e => h (e ▸ hz)
  omega
theorem needed_nil {cs : Cells} {j : Nat} {n : Int} : n ∈ neededF cs [] j ↔ n ∈ (need1 cs j).map (·.1) := by
  rw [mem_needed]
  have : need2 [] j = [] := rfl
  rw [this]; simp
section
variable {ls : Lines} {cs : Cells}
/-- without marks a line stands where what is held changes -/
theorem mem_few (H : SimpH ls cs []) {j : Nat} (hj : j < 3) {x : Int} : x ∈ (fewestF ls cs []).getD j [] ↔ ∃ p, axOf p j = x ∧ ¬ (Sem ls (keyL cs) p ↔ Sem ls (keyL cs) (setAx p j (x - 1))) := by
  rw [few_at hj, List.mem_map]
  constructor
  · rintro ⟨n, hn, rfl⟩
    have rg := needed_range H hj hn
    obtain ⟨c, hc, s, rfl, h1, rfl⟩ := mem_need1.mp (needed_nil.mp hn)
    have ic := H.wf c hc
    have ⟨i1, i2⟩ := ic _ hj
    have hl := ixC_low H.g ic
    rw [beside_eq] at rg ⊢
    rcases stp_cases s with hs | hs
    · rw [if_neg (by rw [hs]; decide)] at rg ⊢
      refine ⟨lowF ls c, axOf_low hj, fun z => ?_⟩
      have a := z.mp (by unfold Sem; rw [hl]; exact hc)
      unfold Sem at a
      rw [ixC_set hj, hl, ix_pred (H.g.asc _ hj) rg.2] at a
      rw [nb_down hs] at h1
      refine h1 ?_
      rw [show axOf c (ax s) - 1 = ((axOf c (ax s)).toNat : Int) - 1 by omega]
      exact a
    · rw [if_pos hs] at rg ⊢
      refine ⟨setAx (lowF ls c) (ax s) ((ls.getD (ax s) []).getD (axOf c (ax s) + 1).toNat 0), axOf_set_same hj, fun z => ?_⟩
      have a := z.mpr (by
        unfold Sem
        rw [set_set hj, ixC_set hj, hl, ix_pred (H.g.asc _ hj) rg.2]
        rw [show ((axOf c (ax s) + 1).toNat : Int) - 1 = axOf c (ax s) by omega, set_self hj]; exact hc)
      unfold Sem at a
      rw [ixC_set hj, hl, ix_at (H.g.asc _ hj) rg.2] at a
      rw [nb_up hs] at h1
      refine h1 ?_
      rw [show axOf c (ax s) + 1 = ((axOf c (ax s) + 1).toNat : Int) by omega]
      exact a
  · rintro ⟨p, rfl, h⟩
    have hx : axOf p j ∈ ls.getD j [] := Classical.byContradiction fun z => h (by
      unfold Sem
      rw [ixC_set hj, ix_same z, ← axOf_ixC hj, set_self hj])
    obtain ⟨i, hi, e⟩ := mem_getD hx
    have e1 : axOf (ixC ls p) j = i := by rw [axOf_ixC hj, ← e, ix_at (H.g.asc j hj) hi]
    have e2 : ixC ls (setAx p j (axOf p j - 1)) = setAx (ixC ls p) j ((i : Int) - 1) := by rw [ixC_set hj, ← e, ix_pred (H.g.asc j hj) hi]
    unfold Sem at h
    rw [e2] at h
    refine ⟨(i : Int), needed_nil.mpr (mem_need1.mpr ?_), by rw [Int.toNat_natCast, e]⟩
    by_cases hc : ixC ls p ∈ keyL cs
    · obtain ⟨_, s, rfl, hs⟩ := side_of j hj
      refine ⟨ixC ls p, hc, s, rfl, fun z => h ⟨fun _ => ?_, fun _ => hc⟩, ?_⟩
      · rw [nb_down hs, e1] at z; exact z
      · rw [beside_eq, if_neg (by rw [hs]; decide), e1]
    · have hc' : setAx (ixC ls p) j ((i : Int) - 1) ∈ keyL cs := Classical.byContradiction fun z => h ⟨fun y => absurd y hc, fun y => absurd y z⟩
      obtain ⟨⟨s, rfl, hs⟩, _⟩ := side_of j hj
      refine ⟨_, hc', s, rfl, fun z => hc ?_, ?_⟩
      · rw [nb_up hs, set_set hj, axOf_set_same hj, show (i : Int) - 1 + 1 = i by omega, ← e1, set_self hj] at z; exact z
      · rw [beside_eq, if_pos hs, axOf_set_same hj]; omega
end
theorem lines_ext {a b : Lines} (ha : a.length = 3) (hb : b.length = 3) (h : ∀ j < 3, a.getD j [] = b.getD j []) : a = b := by
  match a, b, ha, hb with
  | [a0, a1, a2], [b0, b1, b2], _, _ =>
    have h0 : a0 = b0 := h 0 (by decide)
    have h1 : a1 = b1 := h 1 (by decide)
    have h2 : a2 = b2 := h 2 (by decide)
    rw [h0, h1, h2]
section
variable {ls ls2 : Lines} {cs cs2 : Cells}
theorem canon_lines (H : SimpH ls cs []) (H2 : SimpH ls2 cs2 []) (h : ∀ p, Sem ls (keyL cs) p ↔ Sem ls2 (keyL cs2) p) : fewestF ls cs [] = fewestF ls2 cs2 [] := by
  refine lines_ext (few_g H).len (few_g H2).len fun j hj => asc_ext ((few_g H).asc j hj) ((few_g H2).asc j hj) fun x => ?_
  rw [mem_few H hj, mem_few H2 hj]
  refine exists_congr fun p => and_congr_right fun _ => not_congr ?_
  rw [h p, h (setAx p j (x - 1))]
theorem canon_keys (H : SimpH ls cs []) (H2 : SimpH ls2 cs2 []) (h : ∀ p, Sem ls (keyL cs) p ↔ Sem ls2 (keyL cs2) p) (d : Cell) : d ∈ keyL (cellsF cs []) ↔ d ∈ keyL (cellsF cs2 []) := by
  have e := canon_lines H H2 h
  constructor
  · intro hd
    have hi := simp_wf H d hd
    rw [← sem_low (few_g H) hi, simp_sem H, h, ← simp_sem H2] at hd
    rw [e] at hd hi
    exact (sem_low (few_g H2) hi).mp hd
  · intro hd
    have hi := simp_wf H2 d hd
    rw [← sem_low (few_g H2) hi, simp_sem H2, ← h, ← simp_sem H] at hd
    rw [← e] at hd hi
    exact (sem_low (few_g H) hi).mp hd
end
theorem nd_get {κ α : Type} [DecidableEq κ] : ∀ {l : List (κ × α)} {x : κ × α}, (l.map (·.1)).Nodup → x ∈ l → dget l x.1 = some x.2
  | y :: l, x, nd, h => by
    rw [List.map_cons, List.nodup_cons] at nd
    rcases List.mem_cons.mp h with e | e
    · subst e; simp [dget]
    · have ne : y.1 ≠ x.1 := fun z => nd.1 (z ▸ List.mem_map.mpr ⟨x, e, rfl⟩)
      have := nd_get nd.2 e
      unfold dget at this ⊢
      rw [List.find?_cons, show decide (y.1 = x.1) = false from decide_eq_false ne]
      exact this
theorem dputs_val {κ α : Type} [DecidableEq κ] {ys : List (κ × α)} {x : κ × α} (h : x ∈ dputs [] ys) : x ∈ ys := dputs_mem (nd_get (dputs_nd ys) h)
theorem cells_true {cs : Cells} {l : Marks} {x : Cell × Bool} (h : x ∈ cellsF cs l) : x.2 = true := by
  unfold cellsF at h
  obtain ⟨c, _, e⟩ := List.mem_map.mp (dputs_val h)
  rw [← e]; rfl
theorem sameC_of {l m : Cells} (n1 : (keyL l).Nodup) (n2 : (keyL m).Nodup) (t1 : ∀ x ∈ l, x.2 = true) (t2 : ∀ x ∈ m, x.2 = true) (h : ∀ d, d ∈ keyL l ↔ d ∈ keyL m) : SameC l m := by
  refine ⟨?_, fun x hx => ?_⟩
  · have := ((List.perm_ext_iff_of_nodup n1 n2).mpr h).length_eq
    unfold keyL at this
    rwa [List.length_map, List.length_map] at this
  · have : x.1 ∈ keyL m := (h x.1).mp (List.mem_map.mpr ⟨x, hx, rfl⟩)
    obtain ⟨y, hy, e⟩ := List.mem_map.mp this
    have : y = x := Prod.ext e (by rw [t1 x hx, t2 y hy])
    subst this
    obtain ⟨i, hi, e⟩ := List.mem_iff_getElem.mp hy
    exact ⟨i, by rw [List.getElem?_eq_getElem hi, e]⟩
/-! ### sizes -/
def B3 (ls : Lines) : Prop := (ls.getD 0 []).length ≤ 24 ∧ (ls.getD 1 []).length ≤ 6 ∧ (ls.getD 2 []).length ≤ 6
theorem B3.at {ls : Lines} (b : B3 ls) {j : Nat} (hj : j < 3) : (ls.getD j []).length ≤ 24 := by
  obtain ⟨h0, h1, h2⟩ := b
  rcases lt3 hj with rfl | rfl | rfl <;> omega
theorem cells_len {ls : Lines} {ks : List Cell} (b : B3 ls) (wf : WF ls ks) (nd : ks.Nodup) : ks.length ≤ 575 := by
  have : ∀ c ∈ ks, c ∈ triplesF (rng 0 23) (rng 0 5) (rng 0 5) := fun c hc => by
    obtain ⟨h0, h1, h2⟩ := b
    have a0 := wf c hc 0 (by decide)
    have a1 := wf c hc 1 (by decide)
    have a2 := wf c hc 2 (by decide)
    unfold InR at a0 a1 a2
    have e0 : axOf c 0 = c.1 := rfl
    have e1 : axOf c 1 = c.2.1 := rfl
    have e2 : axOf c 2 = c.2.2 := rfl
    exact mem_triples.mpr ⟨mem_rng.mpr (by omega), mem_rng.mpr (by omega), mem_rng.mpr (by omega)⟩
  have h := nd.length_le_of_subset this
  rw [triples_len, rng_length, rng_length] at h
  exact h
theorem asc_bnd {l : List Int} {m : Nat} (hl : Asc l) (h : ∀ x ∈ l, 0 ≤ x ∧ x.toNat < m) : l.length ≤ m := by
  have n : l.Nodup := hl.imp fun h => by omega
  have := n.length_le_of_subset (l₂ := rng 0 m) fun x hx => mem_rng.mpr (by have := h x hx; omega)
  rw [rng_length] at this
  omega
section
variable {ls : Lines} {cs : Cells} {l : Marks}
theorem needed_len (H : SimpH ls cs l) {j : Nat} (hj : j < 3) : (neededF cs l j).length ≤ (ls.getD j []).length := asc_bnd (needed_asc cs l j) fun x hx => needed_range H hj hx
theorem few_len (H : SimpH ls cs l) {j : Nat} (hj : j < 3) : ((fewestF ls cs l).getD j []).length ≤ (ls.getD j []).length := by
  rw [few_at hj, List.length_map]; exact needed_len H hj
theorem few_b3 (H : SimpH ls cs l) (b : B3 ls) : B3 (fewestF ls cs l) := ⟨Nat.le_trans (few_len H (by decide)) b.1, Nat.le_trans (few_len H (by decide)) b.2.1, Nat.le_trans (few_len H (by decide)) b.2.2⟩
theorem few_sub (H : SimpH ls cs l) : Sub3 (fewestF ls cs l) ls := fun j hj x hx => by
  rw [few_at hj] at hx
  obtain ⟨n, hn, rfl⟩ := List.mem_map.mp hx
  exact getD_mem (needed_range H hj hn).2
theorem marks_len {ks : List Cell} {qs : List Sq} (nd : qs.Nodup) (h : ∀ q ∈ qs, q.1 ∈ ks) : qs.length ≤ ks.length * 6 := by
  have := nd.length_le_of_subset (l₂ := ks.flatMap fun c => allS.map fun s => (c, s)) fun q hq => List.mem_flatMap.mpr ⟨q.1, h q hq, List.mem_map.mpr ⟨q.2, mem_allS q.2, rfl⟩⟩
  exact Nat.le_trans this (flat_len _ 6 ks fun c _ => by rw [List.length_map]; decide)
theorem simpOk_of (H : SimpH ls cs l) (b : B3 ls) (n1 : (keyL cs).Nodup) (n2 : (l.map (·.1)).Nodup) : SimpOk ls cs l := by
  have hc : cs.length ≤ 575 := by have := cells_len b H.wf n1; unfold keyL at this; rwa [List.length_map] at this
  have hm : l.length ≤ 3450 := by
    have := marks_len n2 H.mks
    unfold keyL at this
    rw [List.length_map, List.length_map] at this
    omega
  have hr : ∀ j < 3, ∀ x ∈ neededF cs l j, 0 ≤ x ∧ x ≤ 24 := fun j hj x hx => by
    have := needed_range H hj hx
    have := b.at hj
    omega
  refine ⟨fun j hj => ⟨hj, by omega, by omega, ?_⟩, H.g.len, fun j hj i hi => needed_range H hj hi, fun j hj => ⟨?_, fun x hx => by have := hr j hj x hx; omega, ?_⟩, fun c hc j hj => ?_, H.mks⟩
  · have h1 := needed_len H hj
    have h2 := b.at hj
    unfold neededF at h1
    rw [(sortZ_perm _).length_eq, List.length_map] at h1
    omega
  · have h1 := needed_len H hj
    have h2 := b.at hj
    omega
  · have hl : (neededF cs l j).length ≤ 24 := Nat.le_trans (needed_len H hj) (b.at hj)
    unfold newIxE
    refine Nat.le_trans (flat_len _ 25 _ fun z hz => ?_) ?_
    · refine Nat.le_trans (flat_len _ 1 _ fun _ _ => Nat.le_refl _) ?_
      obtain ⟨i, h2, h3⟩ := idx_mem.mp hz
      have h4 := List.of_mem_zip (List.mem_of_getElem? h2)
      have a1 : 0 ≤ z.2.1 ∧ z.2.1 ≤ 24 := hr j hj _ h4.1
      have a2 : 0 ≤ z.2.2 ∧ z.2.2 ≤ 24 := hr j hj _ (List.mem_of_mem_drop h4.2)
      rw [rng_length]; omega
    · rw [idx_length, List.length_zip, List.length_drop]
      have : min (neededF cs l j).length ((neededF cs l j).length - 1) ≤ 24 := by omega
      show _ ≤ 1000000
      omega
  · have := needed_in H hc j hj
    rw [axOf_ixC hj, Nl_at hj] at this
    rw [newIx_get (needed_asc cs l j) this]; rfl
end
section
variable {a b : Lines} {ks : List Cell}
theorem plc_range {l : List Int} (hl : Asc l) {x : Int} (h : x ∈ l) : 0 ≤ plc l x ∧ (plc l x).toNat < l.length := by
  rw [plc_ix hl h]
  obtain ⟨i, hi, rfl⟩ := mem_getD h
  rw [ix_at hl hi]; omega
theorem coarseOk_of (ga : G3 a) (gb : G3 b) (sub : Sub3 a b) (wf : WF a ks) (nd : ks.Nodup) (ba : B3 a) (bb : B3 b) : CoarseOk a ks b := by
  have hz : ∀ z ∈ a.zip b, ∃ j < 3, z = (a.getD j [], b.getD j []) := by
    match a, b, ga.len, gb.len with
    | [a0, a1, a2], [b0, b1, b2], _, _ =>
      intro z hz
      simp only [List.zip_cons_cons, List.zip_nil_right, List.mem_cons, List.not_mem_nil, or_false] at hz
      rcases hz with rfl | rfl | rfl
      · exact ⟨0, by decide, rfl⟩
      · exact ⟨1, by decide, rfl⟩
      · exact ⟨2, by decide, rfl⟩
  have part : ∀ c ∈ ks, ∀ j < 3, (((insF a b).getD j []).getD (axOf c j).toNat []).length ≤ (b.getD j []).length := fun c hc j hj => by
    rw [zip_getD ga.len gb.len hj, parts_get (by have := wf c hc j hj; unfold InR at this; omega), rng_length]
    have i := wf c hc j hj
    unfold InR at i
    have p1 := plc_range (gb.asc j hj) (sub j hj _ (getD_mem (i := (axOf c j).toNat + 1) (by omega)))
    have p0 := plc_range (gb.asc j hj) (sub j hj _ (getD_mem (i := (axOf c j).toNat) (by omega)))
    omega
  have blk : ∀ c ∈ ks, (((insF a b).getD 0 []).getD c.1.toNat []).length * ((((insF a b).getD 1 []).getD c.2.1.toNat []).length * (((insF a b).getD 2 []).getD c.2.2.toNat []).length) ≤ 24 * (6 * 6) := fun c hc => by
    have h0 := part c hc 0 (by decide)
    have h1 := part c hc 1 (by decide)
    have h2 := part c hc 2 (by decide)
    exact Nat.mul_le_mul (Nat.le_trans h0 bb.1) (Nat.mul_le_mul (Nat.le_trans h1 bb.2.1) (Nat.le_trans h2 bb.2.2))
  refine ⟨ga.len, gb.len, fun z hzz => ?_, fun c hc j hj => ?_, fun c hc => Nat.le_trans (blk c hc) (by decide), ?_⟩
  · obtain ⟨j, hj, rfl⟩ := hz z hzz
    have h1 := ba.at hj
    have h2 := bb.at hj
    refine ⟨fun x hx => by rw [plc_eq (gb.asc j hj) (sub j hj x hx)]; rfl, fun x hx => ?_, by show (a.getD j []).length ≤ 1000; omega, by show (b.getD j []).length ≤ 1000; omega⟩
    have := plc_range (gb.asc j hj) (sub j hj x hx)
    show 0 ≤ plc (b.getD j []) x ∧ plc (b.getD j []) x ≤ 1000
    omega
  · have i := wf c hc j hj
    unfold InR at i
    rw [zip_getD ga.len gb.len hj, parts_len]
    omega
  · unfold coarseE
    refine Nat.le_trans (flat_len _ 864 _ fun c hc => Nat.le_trans (flat_len _ 1 _ fun _ _ => Nat.le_refl _) ?_) ?_
    · unfold blockF
      rw [triples_len, Nat.mul_one]
      exact blk c hc
    · have := cells_len ba wf nd
      show _ ≤ 1000000
      omega
end
end SN
end TME

section TMF
set_option Elab.async false
set_option linter.all false
set_option maxRecDepth 100000
set_option maxHeartbeats 1000017
/-! MF: plain: marks lie on the surface, kept by simplified and on finer lines. -/
namespace SN
open PySem

theorem mem_surf {α : Type} {l : List (Cell × α)} {q : Sq} : q ∈ surfOf l ↔ q.1 ∈ keyL l ∧ nb q.1 q.2 ∉ keyL l := by
  unfold surfOf surfF
  rw [List.mem_flatMap]
  have e : ∀ c, (!(dget l c).isSome) = true ↔ c ∉ keyL l := fun c => by
    rw [← keyL_mem]
    cases (dget l c).isSome <;> simp
  constructor
  · rintro ⟨c, hc, h⟩
    obtain ⟨s, hs, rfl⟩ := List.mem_map.mp h
    exact ⟨hc, (e _).mp (List.mem_filter.mp hs).2⟩
  · rintro ⟨h1, h2⟩
    exact ⟨q.1, h1, List.mem_map.mpr ⟨q.2, List.mem_filter.mpr ⟨mem_allS q.2, (e _).mpr h2⟩, rfl⟩⟩
theorem surf_len {α : Type} (l : List (Cell × α)) : (surfOf l).length ≤ (keyL l).length * 6 := by
  unfold surfOf surfF
  refine flat_len _ 6 _ fun c _ => ?_
  rw [List.length_map]
  exact Nat.le_trans (List.length_filter_le _ _) (by decide)
def mkeys (l : Marks) : List Sq := l.map (·.1)
structure MInv (M : Mkd) : Prop where
  g : G3 M.1
  wf : WF M.1 (keyL M.2.1)
  nd : (keyL M.2.1).Nodup
  mn : (mkeys M.2.2).Nodup
  mks : ∀ q ∈ mkeys M.2.2, q.1 ∈ keyL M.2.1
  surf : ∀ c ∈ keyL M.2.1, ∀ s, nb c s ∉ keyL M.2.1 → (c, s) ∈ mkeys M.2.2
  b : B3 M.1
theorem kept_keys {cs : Cells} {l : Marks} {q : Sq} : q ∈ mkeys (keptF cs l) ↔ ∃ q0 ∈ mkeys l, (mvd cs l q0.1, q0.2) = q := by
  unfold mkeys keptF
  rw [dputs_keys, List.map_map, List.mem_map]
  rfl
section
variable {ls : Lines} {cs : Cells} {l : Marks}
theorem simp_surf (H : SimpH ls cs l) (hs : ∀ c ∈ keyL cs, ∀ s, nb c s ∉ keyL cs → (c, s) ∈ mkeys l) : ∀ c ∈ keyL (cellsF cs l), ∀ s, nb c s ∉ keyL (cellsF cs l) → (c, s) ∈ mkeys (keptF cs l) := by
  intro c' hc' s hn
  obtain ⟨c, hc, rfl⟩ := (cells_keys H).mp hc'
  have hj := ax_lt s
  have hN := needed_asc cs l (ax s)
  have ir := needed_in H hc (ax s) hj
  rw [Nl_at hj] at ir
  have ir' := ir
  obtain ⟨i1, i2⟩ := ir'
  -- the last cell on that side
  have key : ∃ y, ixAt (neededF cs l (ax s)) y = axOf (ixC (Nl cs l) c) (ax s) ∧ ixAt (neededF cs l (ax s)) (y + stp s) = axOf (ixC (Nl cs l) c) (ax s) + stp s := by
    generalize axOf (ixC (Nl cs l) c) (ax s) = i at ir i1 i2
    rcases stp_cases s with h | h
    · refine ⟨(neededF cs l (ax s)).getD i.toNat 0, ?_, ?_⟩
      · rw [ix_at hN (by omega)]; omega
      · rw [h]
        have := ix_pred hN (i := i.toNat) (by omega)
        rw [show (neededF cs l (ax s)).getD i.toNat 0 + -1 = (neededF cs l (ax s)).getD i.toNat 0 - 1 by omega, this]; omega
    · refine ⟨(neededF cs l (ax s)).getD (i.toNat + 1) 0 - 1, ?_, ?_⟩
      · rw [ix_pred hN (by omega)]; push_cast; omega
      · rw [h, show (neededF cs l (ax s)).getD (i.toNat + 1) 0 - 1 + 1 = (neededF cs l (ax s)).getD (i.toNat + 1) 0 by omega, ix_at hN (by omega)]; push_cast; omega
  obtain ⟨y, y1, y2⟩ := key
  have e1 : ixC (Nl cs l) (setAx c (ax s) y) = ixC (Nl cs l) c := by rw [ixC_set hj, Nl_at hj, y1, set_self hj]
  have h2 : setAx c (ax s) y ∈ keyL cs := walk3 hc e1.symm
  have h3 : nb (setAx c (ax s) y) s ∉ keyL cs := fun z => hn ((cells_keys H).mpr ⟨_, z, by
    unfold nb
    rw [set_set hj, axOf_set_same hj, ixC_set hj, Nl_at hj, y2]⟩)
  exact kept_keys.mpr ⟨_, hs _ h2 s h3, by rw [mvd_ix H h2, e1]⟩
theorem simp_minv (H : SimpH ls cs l) (hs : ∀ c ∈ keyL cs, ∀ s, nb c s ∉ keyL cs → (c, s) ∈ mkeys l) (b : B3 ls) : MInv (simpF ls cs l) :=
  ⟨few_g H, simp_wf H, cells_nd, dputs_nd _, fun q hq => by
    obtain ⟨q0, h0, rfl⟩ := kept_keys.mp hq
    have := H.mks _ h0
    exact (cells_keys H).mpr ⟨q0.1, this, (mvd_ix H this).symm⟩, simp_surf H hs, few_b3 H b⟩
end
/-! ### on finer lines -/
theorem step_up {a b : List Int} (ha : Asc a) (hb : Asc b) (sub : ∀ x ∈ a, x ∈ b) {i : Nat} (hi : i + 1 < b.length) : ixAt a (b.getD (i + 1) 0) = ixAt a (b.getD i 0) ∨ ixAt a (b.getD (i + 1) 0) = ixAt a (b.getD i 0) + 1 := by
  have gap : ∀ z ∈ b, b.getD i 0 < z → b.getD (i + 1) 0 ≤ z := fun z hz h => by
    obtain ⟨k, hk, rfl⟩ := mem_getD hz
    rcases Nat.lt_or_ge i k with h1 | h1
    · rcases Nat.lt_or_ge (i + 1) k with h2 | h2
      · exact Int.le_of_lt (asc_lt hb h2 hk)
      · rw [show k = i + 1 by omega]; exact Int.le_refl _
    · rcases Nat.lt_or_ge k i with h2 | h2
      · have := asc_lt hb h2 (by omega : i < b.length); omega
      · rw [show k = i by omega] at h; omega
  have lt := asc_lt hb (Nat.lt_add_one i) hi
  by_cases hx : b.getD (i + 1) 0 ∈ a
  · right
    obtain ⟨k, hk, e⟩ := mem_getD hx
    have e1 : ixAt a (b.getD (i + 1) 0) = k := by rw [← e, ix_at ha hk]
    have e2 : ixAt a (b.getD (i + 1) 0 - 1) = (k : Int) - 1 := by rw [← e, ix_pred ha hk]
    have e3 : ixAt a (b.getD (i + 1) 0 - 1) = ixAt a (b.getD i 0) := ix_congr fun z hz => by
      have := gap z (sub z hz)
      omega
    omega
  · left
    exact ix_congr fun z hz => by
      have := gap z (sub z hz)
      have : z ≠ b.getD (i + 1) 0 := fun e => hx (e ▸ hz)
      omega
theorem step_down {a : List Int} (ha : Asc a) (y : Int) : ixAt a (y - 1) = ixAt a y ∨ ixAt a (y - 1) = ixAt a y - 1 := by
  by_cases hy : y ∈ a
  · right
    obtain ⟨k, hk, e⟩ := mem_getD hy
    rw [← e, ix_pred ha hk, ix_at ha hk]
  · left; exact ix_same hy
theorem coarse_surf {a b : Lines} (ga : G3 a) (gb : G3 b) (sub : Sub3 a b) {ks : List Cell} (wf : WF a ks) {d : Cell} {s : Side} (hd : d ∈ keyL (coarseF a ks b)) (hn : nb d s ∉ keyL (coarseF a ks b)) : nb (ixC a (lowF b d)) s ∉ ks := by
  obtain ⟨i, hc⟩ := (coarse_keys ga gb sub wf).mp hd
  have hj := ax_lt s
  obtain ⟨i1, i2⟩ := i _ hj
  have hl := ixC_low gb i
  have key : ∃ x, ixAt (b.getD (ax s) []) x = axOf d (ax s) + stp s ∧ (ixAt (a.getD (ax s) []) x = axOf (ixC a (lowF b d)) (ax s) ∨ ixAt (a.getD (ax s) []) x = axOf (ixC a (lowF b d)) (ax s) + stp s) := by
    rw [axOf_ixC hj, axOf_low hj]
    rcases stp_cases s with h | h
    · refine ⟨(b.getD (ax s) []).getD (axOf d (ax s)).toNat 0 - 1, ?_, ?_⟩
      · rw [ix_pred (gb.asc _ hj) (by omega), h]; omega
      · rw [h]; exact step_down (ga.asc _ hj) _
    · refine ⟨(b.getD (ax s) []).getD ((axOf d (ax s)).toNat + 1) 0, ?_, ?_⟩
      · rw [ix_at (gb.asc _ hj) (by omega), h]; push_cast; omega
      · rw [h]; exact step_up (ga.asc _ hj) (gb.asc _ hj) (sub _ hj) (by omega)
  obtain ⟨x, x1, x2⟩ := key
  have e : ixC b (setAx (lowF b d) (ax s) x) = nb d s := by rw [ixC_set hj, hl, x1]; rfl
  have h1 : ¬ Sem b (keyL (coarseF a ks b)) (setAx (lowF b d) (ax s) x) := by unfold Sem; rw [e]; exact hn
  rw [coarse_sem ga gb sub wf] at h1
  unfold Sem at h1
  rw [ixC_set hj] at h1
  rcases x2 with x2 | x2
  · rw [x2, set_self hj] at h1; exact absurd hc h1
  · rw [x2] at h1; exact h1
section
variable {M : Mkd} {b : Lines}
theorem onC_eq : onC M b = coarseF M.1 (keyL M.2.1) b := rfl
theorem onOk_of (I : MInv M) (gb : G3 b) (sub : Sub3 M.1 b) (bb : B3 b) : OnOk M b := by
  have co := coarseOk_of I.g gb sub I.wf I.nd I.b bb
  have hl := cells_len bb (coarse_wf I.g gb sub I.wf) coarse_nd
  refine ⟨co, ?_, ?_, fun q hq => ?_⟩
  · have := hl
    unfold keyL at this
    rw [List.length_map] at this
    show (coarseF M.1 (keyL M.2.1) b).length ≤ 100000
    exact Nat.le_trans this (by decide)
  · have := surf_len (onC M b)
    have h2 : (keyL (onC M b)).length ≤ 575 := hl
    show _ ≤ 1000000
    omega
  · obtain ⟨h1, h2⟩ := mem_surf.mp hq
    have e := coarse_get I.g gb sub I.wf h1
    refine ⟨keyL_mem.mpr h1, ?_⟩
    rw [onC_eq, e]
    have hc := ((coarse_keys I.g gb sub I.wf).mp h1).2
    exact dget_mem.mpr (I.surf _ hc q.2 (coarse_surf I.g gb sub I.wf h1 h2))
theorem onM_keys {q : Sq} : q ∈ mkeys (onM M b) ↔ q ∈ surfOf (onC M b) := by
  unfold mkeys onM
  rw [dputs_keys, List.map_map]
  have : ((fun x : Sq × Str => x.1) ∘ onQ M (onC M b)) = id := rfl
  rw [this, List.map_id]
end
end SN
end TMF

section TMG
set_option Elab.async false
set_option linter.all false
set_option maxRecDepth 100000
set_option maxHeartbeats 1000017
/-! MG: plain: operated. -/
namespace SN
open PySem

theorem merged_at {a b : Lines} (ha : a.length = 3) (hb : b.length = 3) {j : Nat} (hj : j < 3) : (mergedF a b).getD j [] = asc (a.getD j [] ++ b.getD j []) := by
  match a, b, ha, hb with
  | [a0, a1, a2], [b0, b1, b2], _, _ => rcases lt3 hj with rfl | rfl | rfl <;> rfl
theorem merged_g {a b : Lines} (ha : a.length = 3) (hb : b.length = 3) : G3 (mergedF a b) := by
  refine ⟨?_, fun j hj => by rw [merged_at ha hb hj]; exact asc_asc _⟩
  unfold mergedF
  rw [List.length_map, List.length_zip, ha, hb]; rfl
theorem merged_mem {a b : Lines} (ha : a.length = 3) (hb : b.length = 3) {j : Nat} (hj : j < 3) {x : Int} : x ∈ (mergedF a b).getD j [] ↔ x ∈ a.getD j [] ∨ x ∈ b.getD j [] := by
  rw [merged_at ha hb hj, asc_mem, List.mem_append]
theorem merged_sub1 {a b : Lines} (ha : a.length = 3) (hb : b.length = 3) : Sub3 a (mergedF a b) := fun j hj x hx => (merged_mem ha hb hj).mpr (.inl hx)
theorem merged_sub2 {a b : Lines} (ha : a.length = 3) (hb : b.length = 3) : Sub3 b (mergedF a b) := fun j hj x hx => (merged_mem ha hb hj).mpr (.inr hx)
theorem keysU_keys {α : Type} (l : List (Cell × α)) : keyL (keysU l) = keyL l := by
  unfold keyL keysU
  rw [List.map_map]; rfl
theorem dputs_keys2 {α : Type} {l ys : List (Cell × α)} {c : Cell} : c ∈ keyL (dputs l ys) ↔ c ∈ keyL l ∨ c ∈ keyL ys := by
  rw [← keyL_mem, dget_dputs]
  have e : (dget ys.reverse c).isSome = true ↔ c ∈ keyL ys := by
    rw [dget_mem, List.map_reverse, List.mem_reverse]; rfl
  rw [Option.isSome_or, Bool.or_eq_true, e, keyL_mem]
  exact Or.comm
theorem tru_keys (cs : List Cell) : keyL (cs.map tru) = cs := by
  unfold keyL
  rw [List.map_map]
  exact List.map_id _
theorem cdict_keys {cs : List Cell} {c : Cell} : c ∈ keyL (cdict cs) ↔ c ∈ cs := by
  unfold cdict keyL
  rw [dputs_keys]
  have := tru_keys cs
  unfold keyL at this
  rw [this]
theorem cdict_nd (cs : List Cell) : (keyL (cdict cs)).Nodup := dputs_nd _
def opW (wd : Str) (a b : Prop) : Prop := if wd = ("joined" : Str) then a ∨ b else a ∧ (b ↔ wd = ("met" : Str))
theorem opW_congr {wd : Str} {a b a' b' : Prop} (h1 : a ↔ a') (h2 : b ↔ b') : opW wd a b ↔ opW wd a' b' := by
  unfold opW; rw [h1, h2]
theorem after_keys {α β : Type} {a : List (Cell × α)} {b : List (Cell × β)} {wd : Str} {c : Cell} : c ∈ keyL (afterF a b wd) ↔ opW wd (c ∈ keyL a) (c ∈ keyL b) := by
  unfold afterF opW
  by_cases h : wd = ("joined" : Str)
  · rw [if_pos h, if_pos h, dputs_keys2, dputs_keys2, keysU_keys, keysU_keys]
    simp [keyL]
  · rw [if_neg h, if_neg h, keysU_keys]
    show c ∈ (dputs [] _).map (·.1) ↔ _
    rw [dputs_keys]
    have := tru_keys ((a.map fun x => x.1).filter (keepC b wd))
    unfold keyL at this
    rw [this, List.mem_filter]
    refine and_congr_right fun _ => ?_
    unfold keepC
    rw [decide_eq_true_iff, ← keyL_mem]
    cases (dget b c).isSome <;> simp
theorem after_nd {α β : Type} {a : List (Cell × α)} {b : List (Cell × β)} {wd : Str} : (keyL (afterF a b wd)).Nodup := by
  unfold afterF
  by_cases h : wd = ("joined" : Str)
  · rw [if_pos h]; exact dputs_nodup _ _ (dputs_nd _)
  · rw [if_neg h, keysU_keys]; exact dputs_nd _
theorem mem3 {ls : Lines} (h : ls.length = 3) {x : List Int} (hx : x ∈ ls) : ∃ j < 3, x = ls.getD j [] := by
  match ls, h with
  | [a0, a1, a2], _ =>
    simp only [List.mem_cons, List.not_mem_nil, or_false] at hx
    rcases hx with rfl | rfl | rfl
    · exact ⟨0, by decide, rfl⟩
    · exact ⟨1, by decide, rfl⟩
    · exact ⟨2, by decide, rfl⟩
theorem few_true {ls : Lines} (h : ls.length = 3) (hl : ∀ j < 3, (ls.getD j []).length ≤ 20) : fewF ls = true := by
  unfold fewF
  rw [Bool.not_eq_true', List.any_eq_false]
  intro b hb
  obtain ⟨x, hx, rfl⟩ := List.mem_map.mp hb
  obtain ⟨j, hj, rfl⟩ := mem3 h hx
  have := hl j hj
  have : ¬ ((20 : Int) < ((ls.getD j []).length : Int)) := by omega
  simp only [id, decide_eq_true_eq]
  exact this
theorem few_false {ls : Lines} {j : Nat} (h : ls.length = 3) (hj : j < 3) (hl : 20 < (ls.getD j []).length) : fewF ls = false := by
  unfold fewF
  rw [Bool.not_eq_false', List.any_eq_true]
  have hm : ls.getD j [] ∈ ls := by
    match ls, h with
    | [a0, a1, a2], _ => rcases lt3 hj with rfl | rfl | rfl <;> simp
  refine ⟨_, List.mem_map.mpr ⟨_, hm, rfl⟩, ?_⟩
  simp only [id, decide_eq_true_eq]
  omega
/-! ### hashes -/
def HashOn (P : Program) (w : World) : Prop := ∀ c d : Cell, c ∈ triplesF (rng 0 23) (rng 0 5) (rng 0 5) → d ∈ triplesF (rng 0 23) (rng 0 5) (rng 0 5) → hashC P w c = hashC P w d → c = d
theorem cell_reg {ls : Lines} {c : Cell} (b : B3 ls) (h : InC ls c) : c ∈ triplesF (rng 0 23) (rng 0 5) (rng 0 5) := by
  obtain ⟨h0, h1, h2⟩ := b
  have a0 := h 0 (by decide)
  have a1 := h 1 (by decide)
  have a2 := h 2 (by decide)
  unfold InR at a0 a1 a2
  have e0 : axOf c 0 = c.1 := rfl
  have e1 : axOf c 1 = c.2.1 := rfl
  have e2 : axOf c 2 = c.2.2 := rfl
  exact mem_triples.mpr ⟨mem_rng.mpr (by omega), mem_rng.mpr (by omega), mem_rng.mpr (by omega)⟩
theorem hash_nd {P : Program} {w : World} {α : Type} {l : List (Cell × α)} (hh : HashOn P w) (nd : (keyL l).Nodup) (h : ∀ c ∈ keyL l, c ∈ triplesF (rng 0 23) (rng 0 5) (rng 0 5)) : (l.map fun x => hashC P w x.1).Nodup := by
  have e : (l.map fun x => hashC P w x.1) = (keyL l).map (hashC P w) := by unfold keyL; rw [List.map_map]; rfl
  rw [e]
  unfold List.Nodup
  rw [List.pairwise_map]
  exact List.Pairwise.imp_of_mem (fun {a b} ha hb hab z => hab (hh a b (h a ha) (h b hb) z)) nd
section
variable {P : Program} {w : World} {M T : Mkd} {wd : Str}
theorem opL_g (I : MInv M) (J : MInv T) : G3 (opL M T) := merged_g I.g.len J.g.len
theorem opC_keys {c : Cell} : c ∈ keyL (opC M T wd) ↔ opW wd (c ∈ keyL (onC M (opL M T))) (c ∈ keyL (onC T (opL M T))) := after_keys
theorem opC_wf (I : MInv M) (J : MInv T) : WF (opL M T) (keyL (opC M T wd)) := fun c hc => by
  have h := opC_keys.mp hc
  have h1 := coarse_wf I.g (opL_g I J) (merged_sub1 I.g.len J.g.len) I.wf c
  have h2 := coarse_wf J.g (opL_g I J) (merged_sub2 I.g.len J.g.len) J.wf c
  unfold opW at h
  split at h
  · rcases h with h | h
    · exact h1 h
    · exact h2 h
  · exact h1 h.1
theorem opC_sem (I : MInv M) (J : MInv T) {p : Cell} : Sem (opL M T) (keyL (opC M T wd)) p ↔ opW wd (Sem M.1 (keyL M.2.1) p) (Sem T.1 (keyL T.2.1) p) := by
  unfold Sem
  rw [opC_keys]
  exact opW_congr (coarse_sem I.g (opL_g I J) (merged_sub1 I.g.len J.g.len) I.wf) (coarse_sem J.g (opL_g I J) (merged_sub2 I.g.len J.g.len) J.wf)
theorem opM_keys {q : Sq} : q ∈ mkeys (opM M T wd) ↔ q ∈ surfOf (opC M T wd) := by
  unfold mkeys opM
  rw [dputs_keys, List.map_map]
  have : ((fun x : Sq × Str => x.1) ∘ opPair (onM M (opL M T)) (onM T (opL M T))) = id := rfl
  rw [this, List.map_id]
theorem op_simpH (I : MInv M) (J : MInv T) : SimpH (opL M T) (cdict ((opC M T wd).map fun x => x.1)) (opM M T wd) :=
  ⟨opL_g I J, fun c hc => opC_wf I J c (cdict_keys.mp hc), fun q hq => cdict_keys.mpr (mem_surf.mp (opM_keys.mp hq)).1⟩
theorem op_surf : ∀ c ∈ keyL (cdict ((opC M T wd).map fun x => x.1)), ∀ s, nb c s ∉ keyL (cdict ((opC M T wd).map fun x => x.1)) → (c, s) ∈ mkeys (opM M T wd) := fun c hc s hn =>
  opM_keys.mpr (mem_surf.mpr ⟨cdict_keys.mp hc, fun z => hn (cdict_keys.mpr z)⟩)
theorem opF_minv (I : MInv M) (J : MInv T) (b : B3 (opL M T)) : MInv (opF M T wd) := simp_minv (op_simpH I J) op_surf b
theorem opF_sem (I : MInv M) (J : MInv T) {p : Cell} : Sem (opF M T wd).1 (keyL (opF M T wd).2.1) p ↔ opW wd (Sem M.1 (keyL M.2.1) p) (Sem T.1 (keyL T.2.1) p) := by
  have h1 : Sem (opF M T wd).1 (keyL (opF M T wd).2.1) p ↔ Sem (opL M T) (keyL (cdict ((opC M T wd).map fun x => x.1))) p := simp_sem (op_simpH I J)
  rw [h1, ← opC_sem I J]
  unfold Sem
  exact cdict_keys
theorem opF_sub (I : MInv M) (J : MInv T) : Sub3 (opF M T wd).1 (opL M T) := few_sub (op_simpH I J)
theorem opF_len (I : MInv M) (J : MInv T) {j : Nat} (hj : j < 3) : ((opF M T wd).1.getD j []).length ≤ ((opL M T).getD j []).length := few_len (op_simpH I J) hj
theorem op_has : ∀ q ∈ surfOf (opC M T wd), (dget (onM M (opL M T)) q).isSome = false → (dget (onM T (opL M T)) q).isSome = false → (dget (onM T (opL M T)) (acr q)).isSome = true := fun q hq h1 h2 => by
  have n1 : q ∉ surfOf (onC M (opL M T)) := fun z => by rw [dget_mem.mpr (onM_keys.mpr z)] at h1; cases h1
  have n2 : q ∉ surfOf (onC T (opL M T)) := fun z => by rw [dget_mem.mpr (onM_keys.mpr z)] at h2; cases h2
  refine dget_mem.mpr (onM_keys.mpr (mem_surf.mpr ?_))
  obtain ⟨c, s⟩ := q
  obtain ⟨a1, a2⟩ := mem_surf.mp hq
  rw [mem_surf] at n1 n2
  have b1 := opC_keys.mp a1
  have b2 := fun z => a2 (opC_keys.mpr z)
  dsimp only at a1 a2 b1 b2 n1 n2 ⊢
  rw [nb_opp]
  have m1 : c ∈ keyL (onC M (opL M T)) → nb c s ∈ keyL (onC M (opL M T)) := fun h => Classical.byContradiction fun z => n1 ⟨h, z⟩
  have m2 : c ∈ keyL (onC T (opL M T)) → nb c s ∈ keyL (onC T (opL M T)) := fun h => Classical.byContradiction fun z => n2 ⟨h, z⟩
  unfold opW at b1 b2
  by_cases hw : wd = ("joined" : Str)
  · rw [if_pos hw] at b1 b2
    rcases b1 with h | h
    · exact absurd (.inl (m1 h)) b2
    · exact absurd (.inr (m2 h)) b2
  · rw [if_neg hw] at b1 b2
    obtain ⟨h1, h2⟩ := b1
    have h3 := m1 h1
    by_cases hm : wd = ("met" : Str)
    · exact absurd ⟨h3, ⟨fun _ => hm, fun _ => m2 (h2.mpr hm)⟩⟩ b2
    · have h4 : c ∉ keyL (onC T (opL M T)) := fun z => hm (h2.mp z)
      refine ⟨Classical.byContradiction fun z => b2 ⟨h3, ⟨fun y => absurd y z, fun y => absurd y hm⟩⟩, h4⟩
theorem opOk_of (hh : HashOn P w) (I : MInv M) (J : MInv T) (b : B3 (opL M T)) : OpOk P w M T wd := by
  have g := opL_g I J
  have s1 : Sub3 M.1 (opL M T) := merged_sub1 I.g.len J.g.len
  have s2 : Sub3 T.1 (opL M T) := merged_sub2 I.g.len J.g.len
  have o1 := onOk_of I g s1 b
  have o2 := onOk_of J g s2 b
  have w1 := coarse_wf I.g g s1 I.wf
  have w2 := coarse_wf J.g g s2 J.wf
  have l1 := cells_len b w1 coarse_nd
  have l2 := cells_len b w2 coarse_nd
  have lc := cells_len b (opC_wf (wd := wd) I J) after_nd
  have len : ∀ {α : Type} {l : List (Cell × α)}, (keyL l).length = l.length := fun {α l} => by unfold keyL; rw [List.length_map]
  rw [len] at l1 l2 lc
  refine ⟨fun x hx => ?_, fun x hx => ?_, by rw [I.g.len]; decide, o1, o2, ⟨?_, hash_nd hh coarse_nd fun c hc => cell_reg b (w1 c hc), hash_nd hh coarse_nd fun c hc => cell_reg b (w2 c hc)⟩, ?_, ?_, op_has, ?_⟩
  · obtain ⟨j, hj, rfl⟩ := mem3 I.g.len hx
    have := I.b.at hj; omega
  · obtain ⟨j, hj, rfl⟩ := mem3 J.g.len hx
    have := J.b.at hj; omega
  · show (onC M (opL M T)).length + (onC T (opL M T)).length ≤ 1000000
    have e1 : (onC M (opL M T)).length ≤ 575 := l1
    have e2 : (onC T (opL M T)).length ≤ 575 := l2
    omega
  · show (afterF _ _ _).length ≤ 100000
    have e1 : (opC M T wd).length ≤ 575 := lc
    exact Nat.le_trans e1 (by decide)
  · have := surf_len (opC M T wd)
    rw [len] at this
    have e1 : (opC M T wd).length ≤ 575 := lc
    show _ ≤ 1000000
    omega
  · exact simpOk_of (op_simpH I J) b (cdict_nd _) (dputs_nd _)
end
end SN
end TMG

section TMH
set_option Elab.async false
set_option linter.all false
set_option maxRecDepth 100000
set_option maxHeartbeats 1000017
/-! MH: plain: solids: to_solid, difference, union. -/
namespace SN
open PySem

structure SInv (s : Sol) : Prop where
  g : G3 s.1
  wf : WF s.1 (keyL s.2)
  nd : (keyL s.2).Nodup
  b : B3 s.1
  tr : ∀ x ∈ s.2, x.2 = true
def SSem (s : Sol) (p : Cell) : Prop := Sem s.1 (keyL s.2) p
def MSem (M : Mkd) (p : Cell) : Prop := Sem M.1 (keyL M.2.1) p
def L20 (ls : Lines) : Prop := ∀ j < 3, (ls.getD j []).length ≤ 20
section
variable {ls : Lines} {cl : List Cell}
theorem og_H (g : G3 ls) (wf : WF ls cl) : SimpH ls (cdict cl) [] := ⟨g, fun c hc => wf c (cdict_keys.mp hc), fun q hq => by cases hq⟩
theorem og_inv (g : G3 ls) (wf : WF ls cl) (b : B3 ls) : SInv (ogP ls cl) := by
  rw [ogP_def]
  exact ⟨few_g (og_H g wf), simp_wf (og_H g wf), cells_nd, few_b3 (og_H g wf) b, fun x hx => cells_true hx⟩
theorem og_sem (g : G3 ls) (wf : WF ls cl) {p : Cell} : SSem (ogP ls cl) p ↔ Sem ls cl p := by
  rw [ogP_def]
  have h1 : Sem (fewestF ls (cdict cl) []) (keyL (cellsF (cdict cl) [])) p ↔ Sem ls (keyL (cdict cl)) p := simp_sem (og_H g wf)
  show Sem (fewestF ls (cdict cl) []) (keyL (cellsF (cdict cl) [])) p ↔ _
  rw [h1]
  unfold Sem
  exact cdict_keys
theorem og_sub (g : G3 ls) (wf : WF ls cl) : Sub3 (ogP ls cl).1 ls := by
  rw [ogP_def]; exact few_sub (og_H g wf)
theorem og_len (g : G3 ls) (wf : WF ls cl) {j : Nat} (hj : j < 3) : ((ogP ls cl).1.getD j []).length ≤ (ls.getD j []).length := by
  rw [ogP_def]; exact few_len (og_H g wf) hj
theorem og_lines (g : G3 ls) (wf : WF ls cl) {j : Nat} (hj : j < 3) {x : Int} : x ∈ (ogP ls cl).1.getD j [] ↔ ∃ p, axOf p j = x ∧ ¬ (Sem ls cl p ↔ Sem ls cl (setAx p j (x - 1))) := by
  rw [ogP_def]
  show x ∈ (fewestF ls (cdict cl) []).getD j [] ↔ _
  rw [mem_few (og_H g wf) hj]
  refine exists_congr fun p => and_congr_right fun _ => not_congr ?_
  unfold Sem
  rw [cdict_keys, cdict_keys]
theorem ogOk_of (g : G3 ls) (wf : WF ls cl) (b : B3 ls) (nd : cl.Nodup) : OgOk ls cl := by
  have := cells_len b wf nd
  exact ⟨by show _ ≤ 1000000; omega, simpOk_of (og_H g wf) b (cdict_nd _) (by simp)⟩
theorem okG_eq (ls : Lines) (cl : List Cell) : okG ls cl = fewF (ogP ls cl).1 := by rw [okG_def, ogP_def]
theorem okG_true (g : G3 ls) (wf : WF ls cl) (h : ∀ j < 3, ((ogP ls cl).1.getD j []).length ≤ 20) : okG ls cl = true := by
  rw [okG_eq]
  refine few_true ?_ h
  rw [ogP_def]; exact fewest_len _ _ _
theorem okG_len (g : G3 ls) (wf : WF ls cl) (h : L20 ls) : okG ls cl = true := okG_true g wf fun j hj => Nat.le_trans (og_len g wf hj) (h j hj)
end
/-- two solids that hold the same are the same -/
theorem og_same {ls ls2 : Lines} {cl cl2 : List Cell} (g : G3 ls) (wf : WF ls cl) (g2 : G3 ls2) (wf2 : WF ls2 cl2) (h : ∀ p, Sem ls cl p ↔ Sem ls2 cl2 p) : SameS (ogP ls cl) (ogP ls2 cl2) := by
  rw [ogP_def, ogP_def]
  have h' : ∀ p, Sem ls (keyL (cdict cl)) p ↔ Sem ls2 (keyL (cdict cl2)) p := fun p => by
    have := h p
    unfold Sem at this ⊢
    rw [cdict_keys, cdict_keys]; exact this
  exact ⟨canon_lines (og_H g wf) (og_H g2 wf2) h', sameC_of cells_nd cells_nd (fun x hx => cells_true hx) (fun x hx => cells_true hx) (canon_keys (og_H g wf) (og_H g2 wf2) h')⟩
section
variable {M : Mkd}
theorem ts_inv (I : MInv M) : SInv (tsF M) := og_inv I.g I.wf I.b
theorem ts_sem (I : MInv M) {p : Cell} : SSem (tsF M) p ↔ MSem M p := og_sem I.g I.wf
theorem tsOk_of (I : MInv M) (h : L20 M.1) : TsOk M := ⟨ogOk_of I.g I.wf I.b I.nd, okG_len I.g I.wf h⟩
theorem ts_sub (I : MInv M) : Sub3 (tsF M).1 M.1 := og_sub I.g I.wf
end
section
variable {A B : Sol}
theorem bot_g (I : SInv A) (J : SInv B) : G3 (botL A B) := by rw [botL_def]; exact merged_g I.g.len J.g.len
theorem bot_s1 (I : SInv A) (J : SInv B) : Sub3 A.1 (botL A B) := by rw [botL_def]; exact merged_sub1 I.g.len J.g.len
theorem bot_s2 (I : SInv A) (J : SInv B) : Sub3 B.1 (botL A B) := by rw [botL_def]; exact merged_sub2 I.g.len J.g.len
theorem bot_mem (I : SInv A) (J : SInv B) {j : Nat} (hj : j < 3) {x : Int} : x ∈ (botL A B).getD j [] ↔ x ∈ A.1.getD j [] ∨ x ∈ B.1.getD j [] := by rw [botL_def]; exact merged_mem I.g.len J.g.len hj
theorem onS_keys (I : SInv A) {L : Lines} (g : G3 L) (s : Sub3 A.1 L) {d : Cell} : d ∈ keyL (onS A L) ↔ InC L d ∧ ixC A.1 (lowF L d) ∈ keyL A.2 := by rw [onS_def]; exact coarse_keys I.g g s I.wf
theorem onS_sem (I : SInv A) {L : Lines} (g : G3 L) (s : Sub3 A.1 L) {p : Cell} : Sem L (keyL (onS A L)) p ↔ SSem A p := by rw [onS_def]; exact coarse_sem I.g g s I.wf
theorem onS_wf (I : SInv A) {L : Lines} (g : G3 L) (s : Sub3 A.1 L) : WF L (keyL (onS A L)) := fun d hd => ((onS_keys I g s).mp hd).1
theorem onS_nd {L : Lines} : (keyL (onS A L)).Nodup := by rw [onS_def]; exact coarse_nd
theorem onS_len (I : SInv A) {L : Lines} (g : G3 L) (s : Sub3 A.1 L) (b : B3 L) : (onS A L).length ≤ 575 := by
  have := cells_len b (onS_wf I g s) onS_nd
  unfold keyL at this
  rwa [List.length_map] at this
theorem bothOk_of (I : SInv A) (J : SInv B) (b : B3 (botL A B)) : BothOk A B := by
  refine ⟨fun x hx => ?_, fun x hx => ?_, by rw [I.g.len]; decide, coarseOk_of I.g (bot_g I J) (bot_s1 I J) I.wf I.nd I.b b, coarseOk_of J.g (bot_g I J) (bot_s2 I J) J.wf J.nd J.b b⟩
  · obtain ⟨j, hj, rfl⟩ := mem3 I.g.len hx
    have := I.b.at hj; omega
  · obtain ⟨j, hj, rfl⟩ := mem3 J.g.len hx
    have := J.b.at hj; omega
/-! difference -/
theorem subC_mem {c : Cell} : c ∈ subC A B ↔ c ∈ keyL (onS A (botL A B)) ∧ c ∉ keyL (onS B (botL A B)) := by
  unfold subC
  rw [List.mem_filter]
  refine and_congr_right fun _ => ?_
  unfold notInB
  rw [← keyL_mem]
  cases (dget (onS B (botL A B)) c).isSome <;> simp
theorem subC_wf (I : SInv A) (J : SInv B) : WF (botL A B) (subC A B) := fun c hc => onS_wf I (bot_g I J) (bot_s1 I J) c (subC_mem.mp hc).1
theorem subC_nd : (subC A B).Nodup := List.Nodup.sublist List.filter_sublist onS_nd
theorem subC_sem (I : SInv A) (J : SInv B) {p : Cell} : Sem (botL A B) (subC A B) p ↔ SSem A p ∧ ¬ SSem B p := by
  rw [← onS_sem I (bot_g I J) (bot_s1 I J), ← onS_sem J (bot_g I J) (bot_s2 I J)]
  unfold Sem
  exact subC_mem
theorem sub_inv (I : SInv A) (J : SInv B) (b : B3 (botL A B)) : SInv (subF A B) := og_inv (bot_g I J) (subC_wf I J) b
theorem sub_sem (I : SInv A) (J : SInv B) {p : Cell} : SSem (subF A B) p ↔ SSem A p ∧ ¬ SSem B p := (og_sem (bot_g I J) (subC_wf I J)).trans (subC_sem I J)
theorem subOk_of (I : SInv A) (J : SInv B) (b : B3 (botL A B)) : SubOk A B := ⟨bothOk_of I J b, by have := onS_len I (bot_g I J) (bot_s1 I J) b; show _ ≤ 1000000; omega, ogOk_of (bot_g I J) (subC_wf I J) b subC_nd⟩
theorem subOk_true (I : SInv A) (J : SInv B) (h : L20 (botL A B)) : subOk A B = true := okG_len (bot_g I J) (subC_wf I J) h
theorem sub_lines (I : SInv A) (J : SInv B) : Sub3 (subF A B).1 (botL A B) := og_sub (bot_g I J) (subC_wf I J)
/-! union -/
theorem orC_mem {c : Cell} : c ∈ orC A B ↔ c ∈ keyL (onS A (botL A B)) ∨ c ∈ keyL (onS B (botL A B)) := by
  unfold orC
  rw [dputs_keys2, dputs_keys2, keysU_keys, keysU_keys]
  simp [keyL]
theorem orC_wf (I : SInv A) (J : SInv B) : WF (botL A B) (orC A B) := fun c hc => by
  rcases orC_mem.mp hc with h | h
  · exact onS_wf I (bot_g I J) (bot_s1 I J) c h
  · exact onS_wf J (bot_g I J) (bot_s2 I J) c h
theorem orC_nd : (orC A B).Nodup := dputs_nodup _ _ (dputs_nd _)
theorem orC_sem (I : SInv A) (J : SInv B) {p : Cell} : Sem (botL A B) (orC A B) p ↔ SSem A p ∨ SSem B p := by
  rw [← onS_sem I (bot_g I J) (bot_s1 I J), ← onS_sem J (bot_g I J) (bot_s2 I J)]
  unfold Sem
  exact orC_mem
theorem or_inv (I : SInv A) (J : SInv B) (b : B3 (botL A B)) : SInv (orF A B) := og_inv (bot_g I J) (orC_wf I J) b
theorem or_sem (I : SInv A) (J : SInv B) {p : Cell} : SSem (orF A B) p ↔ SSem A p ∨ SSem B p := (og_sem (bot_g I J) (orC_wf I J)).trans (orC_sem I J)
theorem or_lines (I : SInv A) (J : SInv B) : Sub3 (orF A B).1 (botL A B) := og_sub (bot_g I J) (orC_wf I J)
theorem orOk_of {P : Program} {w : World} (hh : HashOn P w) (I : SInv A) (J : SInv B) (b : B3 (botL A B)) (h : L20 (botL A B)) : OrOk P w A B := by
  have l1 := onS_len I (bot_g I J) (bot_s1 I J) b
  have l2 := onS_len J (bot_g I J) (bot_s2 I J) b
  exact ⟨bothOk_of I J b, by show _ ≤ 1000000; omega, hash_nd hh onS_nd fun c hc => cell_reg b (onS_wf I (bot_g I J) (bot_s1 I J) c hc), hash_nd hh onS_nd fun c hc => cell_reg b (onS_wf J (bot_g I J) (bot_s2 I J) c hc), ogOk_of (bot_g I J) (orC_wf I J) b orC_nd, okG_len (bot_g I J) (orC_wf I J) h⟩
end
/-! ### the empty solid -/
theorem empty_of {s : Sol} (I : SInv s) (h : ∀ p, ¬ SSem s p) : s.2.isEmpty = true := by
  cases e : s.2 with
  | nil => rfl
  | cons x l =>
    exfalso
    have hm : x.1 ∈ keyL s.2 := by unfold keyL; rw [e]; exact List.mem_cons_self ..
    exact h _ ((sem_low I.g (I.wf _ hm)).mpr hm)
end SN
end TMH

section TMI
set_option Elab.async false
set_option linter.all false
set_option maxRecDepth 100000
set_option maxHeartbeats 400017
/-! MI: plain: blocks, points, volume. -/
namespace SN
open PySem

theorem sp_eq (L : Lines) (C : Cells) : ((simpF L C []).1, (simpF L C []).2.1) = (fewestF L C [], cellsF C []) := rfl
theorem sp_inv {L : Lines} {C : Cells} (H : SimpH L C []) (b : B3 L) : SInv (fewestF L C [], cellsF C []) := ⟨few_g H, simp_wf H, cells_nd, few_b3 H b, fun x hx => cells_true hx⟩
theorem sp_sem {L : Lines} {C : Cells} (H : SimpH L C []) {p : Cell} : SSem (fewestF L C [], cellsF C []) p ↔ Sem L (keyL C) p := simp_sem H
theorem sp_sub {L : Lines} {C : Cells} (H : SimpH L C []) : Sub3 ((fewestF L C [], cellsF C []) : Sol).1 L := few_sub H
theorem sp_len {L : Lines} {C : Cells} (H : SimpH L C []) {j : Nat} (hj : j < 3) : (((fewestF L C [], cellsF C []) : Sol).1.getD j []).length ≤ (L.getD j []).length := few_len H hj
def InBox (b : Box) (p : Cell) : Prop := ∀ j < 3, axOf b.1 j ≤ axOf p j ∧ axOf p j < axOf b.2 j
def BoxLt (b : Box) : Prop := ∀ j < 3, axOf b.1 j < axOf b.2 j
section
variable {b : Box}
theorem row_eq (h : BoxLt b) {j : Nat} (hj : j < 3) : gridRow [b] (j : Int) = [axOf b.1 j, axOf b.2 j] := by
  refine asc_ext (asc_asc _) (List.pairwise_cons.mpr ⟨fun x hx => by rw [List.mem_singleton.mp hx]; exact h j hj, List.pairwise_singleton ..⟩) fun x => ?_
  unfold gridRow
  rw [asc_mem, Int.toNat_natCast]
  show x ∈ [axOf b.1 j, axOf b.2 j] ↔ _
  exact Iff.rfl
theorem grid_at (h : BoxLt b) {j : Nat} (hj : j < 3) : (gridLn [b]).getD j [] = [axOf b.1 j, axOf b.2 j] := by
  rw [← row_eq h hj]
  unfold gridLn
  rw [rng3]
  rcases lt3 hj with rfl | rfl | rfl <;> rfl
theorem grid_len : (gridLn [b]).length = 3 := by unfold gridLn; rw [List.length_map, rng3]; rfl
theorem two_asc {x y : Int} (h : x < y) : Asc [x, y] := List.pairwise_cons.mpr ⟨fun z hz => by rw [List.mem_singleton.mp hz]; exact h, List.pairwise_singleton ..⟩
theorem grid_g (h : BoxLt b) : G3 (gridLn [b]) := ⟨grid_len, fun j hj => by rw [grid_at h hj]; exact two_asc (h j hj)⟩
theorem plc_lo (h : BoxLt b) {j : Nat} (hj : j < 3) : plc (gridRow [b] (j : Int)) (axOf b.1 j) = 0 := by
  rw [row_eq h hj, plc_ix (two_asc (h j hj)) (by simp)]
  exact ix_at (two_asc (h j hj)) (i := 0) (by simp)
theorem plc_hi (h : BoxLt b) {j : Nat} (hj : j < 3) : plc (gridRow [b] (j : Int)) (axOf b.2 j) = 1 := by
  rw [row_eq h hj, plc_ix (two_asc (h j hj)) (by simp)]
  exact ix_at (two_asc (h j hj)) (i := 1) (by simp)
theorem axRange_eq (h : BoxLt b) {j : Nat} (hj : j < 3) : axRange [b] b (j : Int) = [0] := by
  unfold axRange
  rw [Int.toNat_natCast, plc_lo h hj, plc_hi h hj]; decide
theorem boxCells_eq (h : BoxLt b) : boxCells [b] b = [(0, 0, 0)] := by
  unfold boxCells
  rw [show axRange [b] b 0 = [0] from axRange_eq h (j := 0) (by decide), show axRange [b] b 1 = [0] from axRange_eq h (j := 1) (by decide), show axRange [b] b 2 = [0] from axRange_eq h (j := 2) (by decide)]
  decide
theorem gridE_eq (h : BoxLt b) : gridE [b] = [((0, 0, 0), true)] := by
  unfold gridE
  rw [List.flatMap_cons, boxCells_eq h]; rfl
theorem gridCs_eq (h : BoxLt b) : gridCs [b] = [((0, 0, 0), true)] := by
  unfold gridCs
  rw [gridE_eq h]; decide
theorem grid_keys (h : BoxLt b) : keyL (gridCs [b]) = [(0, 0, 0)] := by rw [gridCs_eq h]; rfl
theorem grid_wf (h : BoxLt b) : WF (gridLn [b]) (keyL (gridCs [b])) := fun c hc j hj => by
  rw [grid_keys h] at hc
  rw [List.mem_singleton.mp hc, grid_at h hj]
  have : axOf (0, 0, 0) j = 0 := by rcases lt3 hj with rfl | rfl | rfl <;> rfl
  rw [this]
  exact ⟨by omega, by simp⟩
theorem grid_sem (h : BoxLt b) {p : Cell} : Sem (gridLn [b]) (keyL (gridCs [b])) p ↔ InBox b p := by
  unfold Sem
  rw [grid_keys h, List.mem_singleton]
  have e : ∀ j < 3, (axOf (ixC (gridLn [b]) p) j = 0 ↔ axOf b.1 j ≤ axOf p j ∧ axOf p j < axOf b.2 j) := fun j hj => by
    rw [axOf_ixC hj, grid_at h hj, ix_between (two_asc (h j hj)) (i := 0) ⟨by omega, by simp⟩]
    simp
  have z : ∀ j < 3, axOf (0, 0, 0) j = 0 := fun j hj => by rcases lt3 hj with rfl | rfl | rfl <;> rfl
  constructor
  · intro hh j hj
    rw [← e j hj, hh, z j hj]
  · intro hh
    exact axOf_ext fun j hj => by rw [z j hj, e j hj]; exact hh j hj
theorem grid_H (h : BoxLt b) : SimpH (gridLn [b]) (gridCs [b]) [] := ⟨grid_g h, grid_wf h, fun q hq => by cases hq⟩
theorem grid_b3 (h : BoxLt b) : B3 (gridLn [b]) := ⟨by rw [grid_at h (by decide)]; simp, by rw [grid_at h (by decide)]; simp, by rw [grid_at h (by decide)]; simp⟩
theorem gs_eq : gsP b = (fewestF (gridLn [b]) (gridCs [b]) [], cellsF (gridCs [b]) []) := (gsP_def b).trans (sp_eq _ _)
theorem gs_inv (h : BoxLt b) : SInv (gsP b) := by
  rw [gs_eq]
  exact sp_inv (grid_H h) (grid_b3 h)
theorem gs_sem (h : BoxLt b) {p : Cell} : SSem (gsP b) p ↔ InBox b p := by
  rw [gs_eq, sp_sem (grid_H h)]
  exact grid_sem h
theorem gs_sub (h : BoxLt b) : Sub3 (gsP b).1 (gridLn [b]) := by
  rw [gs_eq]
  exact sp_sub (grid_H h)
theorem gs_len (h : BoxLt b) {j : Nat} (hj : j < 3) : ((gsP b).1.getD j []).length ≤ 2 := by
  have e : ((gridLn [b]).getD j []).length = 2 := by rw [grid_at h hj]; rfl
  rw [gs_eq, ← e]
  exact sp_len (grid_H h) hj
variable {nm : Str}
theorem blkM_keys {q : Sq} : q ∈ mkeys (blkM b nm) ↔ q ∈ surfOf (gsP b).2 := by
  unfold mkeys blkM
  rw [dputs_keys, List.map_map]
  have : ((fun x : Sq × Str => x.1) ∘ blkQ nm) = id := rfl
  rw [this, List.map_id]
theorem blk_H (h : BoxLt b) : SimpH (gsP b).1 (cdict (keyL (gsP b).2)) (blkM b nm) := ⟨(gs_inv h).g, fun c hc => (gs_inv h).wf c (cdict_keys.mp hc), fun q hq => cdict_keys.mpr (mem_surf.mp (blkM_keys.mp hq)).1⟩
theorem blk_minv (h : BoxLt b) : MInv (blkF b nm) := by
  unfold blkF
  rw [mkP_def]
  exact simp_minv (blk_H h) (fun c hc s hn => blkM_keys.mpr (mem_surf.mpr ⟨cdict_keys.mp hc, fun z => hn (cdict_keys.mpr z)⟩)) (gs_inv h).b
theorem blk_sem (h : BoxLt b) {p : Cell} : MSem (blkF b nm) p ↔ InBox b p := by
  unfold blkF
  rw [mkP_def, ← gs_sem h]
  have h1 : MSem (mkS (gsP b).1 (keyL (gsP b).2) (blkM b nm)) p ↔ Sem (gsP b).1 (keyL (cdict (keyL (gsP b).2))) p := simp_sem (blk_H h)
  rw [h1]
  unfold SSem Sem
  exact cdict_keys
theorem blk_line (h : BoxLt b) {j : Nat} (hj : j < 3) {x : Int} (hx : x ∈ (blkF b nm).1.getD j []) : x = axOf b.1 j ∨ x = axOf b.2 j := by
  have h1 : Sub3 (blkF b nm).1 (gsP b).1 := by unfold blkF; rw [mkP_def]; exact few_sub (blk_H h)
  have := gs_sub h j hj x (h1 j hj x hx)
  rw [grid_at h hj] at this
  simpa using this
theorem blkOk_of (h : BoxLt b) (hb : isBoxF b = true) (hn : nm ∈ nameL) : BlkOk b nm := by
  have hl : (keyL (gsP b).2).length ≤ 575 := cells_len (gs_inv h).b (gs_inv h).wf (gs_inv h).nd
  have hl' : (gsP b).2.length ≤ 575 := by unfold keyL at hl; rwa [List.length_map] at hl
  refine ⟨hb, hn, ⟨⟨show 2 < 64 by decide, fun c hc j hj => ?_, fun c hc j hj => ?_, fun c hc => ?_, ?_⟩, fun c hc => by rw [List.mem_singleton.mp hc]; exact hb, simpOk_of (grid_H h) (grid_b3 h) (by rw [grid_keys h]; simp) (by simp), ?_⟩, Nat.le_trans hl' (by decide), ?_, simpOk_of (blk_H h) (gs_inv h).b (cdict_nd _) (dputs_nd _), ?_⟩
  · rw [List.mem_singleton.mp hc, row_eq h hj, plc_eq (two_asc (h j hj)) (by simp), plc_eq (two_asc (h j hj)) (by simp)]
    exact ⟨rfl, rfl⟩
  · rw [List.mem_singleton.mp hc, plc_lo h hj, plc_hi h hj]; omega
  · rw [List.mem_singleton.mp hc, show axRange [b] b 0 = [0] from axRange_eq h (j := 0) (by decide), show axRange [b] b 1 = [0] from axRange_eq h (j := 1) (by decide), show axRange [b] b 2 = [0] from axRange_eq h (j := 2) (by decide)]
    decide
  · rw [gridE_eq h]; decide
  · exact few_true (fewest_len _ _ _) fun j hj => by
      refine Nat.le_trans (few_len (grid_H h) hj) ?_
      rw [grid_at h hj]; simp
  · have := surf_len (gsP b).2
    show _ ≤ 1000000
    omega
  · rw [okM_def]
    refine few_true (fewest_len _ _ _) fun j hj => ?_
    have h1 := few_len (blk_H (nm := nm) h) hj
    have h2 := gs_len h hj
    exact Nat.le_trans h1 (by omega)
end
/-! ### points -/
theorem hasOk_of {s : Sol} (I : SInv s) {p : Cell} (h : SSem s p) : HasOk s p ∧ hasF s p = true := by
  have w := I.wf _ h
  have q : ∀ j < 3, IxOk (s.1.getD j []) (axOf p j) := fun j hj => by
    have := w j hj
    rw [axOf_ixC hj] at this
    obtain ⟨h1, h2⟩ := this
    have := I.b.at hj
    exact ⟨by omega, h1, by omega⟩
  exact ⟨⟨I.g.len, q 0 (by decide), q 1 (by decide), q 2 (by decide)⟩, keyL_mem.mpr h⟩
theorem lowOk_of {s : Sol} (I : SInv s) {c : Cell} (h : c ∈ keyL s.2) : LowOk s.1 c := ⟨I.g.len, fun j hj => by
  obtain ⟨h1, h2⟩ := I.wf c h j hj
  exact ⟨h1, by omega⟩⟩
theorem bxOk_of {s : Sol} (I : SInv s) : BxOk s := ⟨by
  have := cells_len I.b I.wf I.nd
  unfold keyL at this
  rw [List.length_map] at this
  show _ ≤ 1000000; omega, fun c hc => lowOk_of I hc⟩
theorem nodup_flat {α β : Type} (f : β → α) (g : α → List β) : ∀ {xs : List α}, xs.Nodup → (∀ x ∈ xs, (g x).Nodup) → (∀ x ∈ xs, ∀ y ∈ g x, f y = x) → (xs.flatMap g).Nodup
  | [], _, _, _ => by simp
  | x :: xs, n, h1, h2 => by
    rw [List.nodup_cons] at n
    rw [List.flatMap_cons, List.nodup_append]
    refine ⟨h1 x (List.mem_cons_self ..), nodup_flat f g n.2 (fun y hy => h1 y (List.mem_cons_of_mem _ hy)) fun y hy => h2 y (List.mem_cons_of_mem _ hy), fun a ha c hc e => ?_⟩
    subst e
    obtain ⟨y, hy, hy2⟩ := List.mem_flatMap.mp hc
    have e1 := h2 x (List.mem_cons_self ..) a ha
    have e2 := h2 y (List.mem_cons_of_mem _ hy) a hy2
    exact n.1 (by rw [← e1, e2]; exact hy)
theorem rng_nodup (lo hi : Int) : (rng lo hi).Nodup := by
  unfold rng List.Nodup
  rw [List.pairwise_map]
  exact (List.nodup_range (n := (hi - lo).toNat)).imp fun h z => h (by omega)
theorem triples_nodup {xs ys zs : List Int} (h1 : xs.Nodup) (h2 : ys.Nodup) (h3 : zs.Nodup) : (triplesF xs ys zs).Nodup := by
  unfold triplesF
  refine nodup_flat (fun c : Cell => c.1) _ h1 (fun x _ => nodup_flat (fun c : Cell => c.2.1) _ h2 (fun y _ => ?_) fun y _ c hc => ?_) fun x _ c hc => ?_
  · unfold List.Nodup
    rw [List.pairwise_map]
    exact h3.imp fun h z => h (by cases z; rfl)
  · obtain ⟨z, _, rfl⟩ := List.mem_map.mp hc; rfl
  · obtain ⟨y, _, h⟩ := List.mem_flatMap.mp hc
    obtain ⟨z, _, rfl⟩ := List.mem_map.mp h; rfl
def ptsOf (ls : Lines) (c : Cell) : List Cell := triplesF (rng (lowF ls c).1 (highF ls c).1) (rng (lowF ls c).2.1 (highF ls c).2.1) (rng (lowF ls c).2.2 (highF ls c).2.2)
section
variable {s : Sol}
theorem low_high (I : SInv s) {c : Cell} (hc : c ∈ keyL s.2) {j : Nat} (hj : j < 3) : axOf (lowF s.1 c) j < axOf (highF s.1 c) j := by
  obtain ⟨h1, h2⟩ := I.wf c hc j hj
  rw [axOf_low hj, axOf_high hj]
  exact asc_lt (I.g.asc j hj) (by omega) (by omega)
theorem mem_pts (I : SInv s) {c p : Cell} (hc : c ∈ keyL s.2) : p ∈ ptsOf s.1 c ↔ ixC s.1 p = c := by
  unfold ptsOf
  rw [mem_triples]
  have e : ∀ j < 3, (axOf (ixC s.1 p) j = axOf c j ↔ axOf (lowF s.1 c) j ≤ axOf p j ∧ axOf p j < axOf (highF s.1 c) j) := fun j hj => by
    have i := I.wf c hc j hj
    rw [axOf_ixC hj, ix_between (I.g.asc j hj) i, axOf_low hj, axOf_high hj]
    have : (axOf c j + 1).toNat = (axOf c j).toNat + 1 := by have := i.1; omega
    rw [this]
  constructor
  · rintro ⟨h0, h1, h2⟩
    exact axOf_ext fun j hj => (e j hj).mpr (by
      rcases lt3 hj with rfl | rfl | rfl
      · exact mem_rng.mp h0
      · exact mem_rng.mp h1
      · exact mem_rng.mp h2)
  · intro h
    have q := fun j hj => (e j hj).mp (by rw [h])
    exact ⟨mem_rng.mpr (q 0 (by decide)), mem_rng.mpr (q 1 (by decide)), mem_rng.mpr (q 2 (by decide))⟩
theorem pts_len (I : SInv s) {c : Cell} (hc : c ∈ keyL s.2) : ((ptsOf s.1 c).length : Int) = volOne s.1 c := by
  unfold ptsOf volOne prodC szF
  rw [triples_len, rng_length, rng_length, rng_length]
  have h0 := low_high I hc (j := 0) (by decide)
  have h1 := low_high I hc (j := 1) (by decide)
  have h2 := low_high I hc (j := 2) (by decide)
  have e0 : ∀ c : Cell, axOf c 0 = c.1 := fun _ => rfl
  have e1 : ∀ c : Cell, axOf c 1 = c.2.1 := fun _ => rfl
  have e2 : ∀ c : Cell, axOf c 2 = c.2.2 := fun _ => rfl
  rw [e0, e0] at h0
  rw [e1, e1] at h1
  rw [e2, e2] at h2
  push_cast
  rw [Int.toNat_of_nonneg (by omega), Int.toNat_of_nonneg (by omega), Int.toNat_of_nonneg (by omega), Int.mul_assoc]
theorem vol_eq (I : SInv s) {l : List Cell} (nd : l.Nodup) (h : ∀ p, p ∈ l ↔ SSem s p) : volF s = (l.length : Int) := by
  have e1 : ∀ ks : List Cell, (∀ c ∈ ks, c ∈ keyL s.2) → (ks.map (volOne s.1)).sum = ((ks.flatMap (ptsOf s.1)).length : Int) := fun ks => by
    induction ks with
    | nil => intro _; rfl
    | cons c ks ih =>
      intro hk
      rw [List.map_cons, List.sum_cons, List.flatMap_cons, List.length_append, ih fun d hd => hk d (List.mem_cons_of_mem _ hd), ← pts_len I (hk c (List.mem_cons_self ..))]
      push_cast; rfl
  unfold volF
  rw [e1 _ fun c hc => hc]
  have nb : ((keyL s.2).flatMap (ptsOf s.1)).Nodup := nodup_flat (ixC s.1) _ I.nd (fun c _ => triples_nodup (rng_nodup ..) (rng_nodup ..) (rng_nodup ..)) fun c hc p hp => (mem_pts I hc).mp hp
  have hm : ∀ p, p ∈ (keyL s.2).flatMap (ptsOf s.1) ↔ p ∈ l := fun p => by
    rw [h p, List.mem_flatMap]
    constructor
    · rintro ⟨c, hc, hp⟩
      unfold SSem Sem
      rw [(mem_pts I hc).mp hp]; exact hc
    · intro hp
      exact ⟨_, hp, (mem_pts I hp).mpr rfl⟩
  rw [((List.perm_ext_iff_of_nodup nb nd).mpr hm).length_eq]
theorem isOk_of (I : SInv s) (hl : ∀ j < 3, ∀ x ∈ s.1.getD j [], 0 ≤ x ∧ x ≤ 5) {l : List Cell} (nd : l.Nodup) (hz : l.length ≤ sz) (h : ∀ p, p ∈ l ↔ SSem s p) : IsOk s l := by
  refine ⟨⟨(bxOk_of I).z, fun c hc => lowOk_of I hc, fun c hc => ?_⟩, vol_eq I nd h, hz, fun c hc => hasOk_of I ((h c).mp hc)⟩
  have q : ∀ j < 3, 0 ≤ axOf (highF s.1 c) j - axOf (lowF s.1 c) j ∧ axOf (highF s.1 c) j - axOf (lowF s.1 c) j ≤ 5 := fun j hj => by
    have h1 := low_high I hc hj
    obtain ⟨i1, i2⟩ := I.wf c hc j hj
    have a := hl j hj _ (getD_mem (i := (axOf c j).toNat) (by omega))
    have b := hl j hj _ (getD_mem (i := (axOf c j + 1).toNat) (by omega))
    rw [axOf_low hj, axOf_high hj] at h1 ⊢
    omega
  have q0 : 0 ≤ (szF s.1 c).1 ∧ (szF s.1 c).1 ≤ 5 := q 0 (by decide)
  have q2 : 0 ≤ (szF s.1 c).2.2 ∧ (szF s.1 c).2.2 ≤ 5 := q 2 (by decide)
  exact ⟨.inl ⟨by omega, by omega⟩, .inr ⟨by omega, by omega⟩⟩
end
end SN
end TMI

section TMJ
set_option Elab.async false
set_option linter.all false
set_option maxRecDepth 100000
set_option maxHeartbeats 400017
/-! MJ: plain: what is built and what a bout asks. -/
namespace SN
open PySem

def In5L (ls : Lines) : Prop := ∀ j < 3, ∀ x ∈ ls.getD j [], 0 ≤ x ∧ x ≤ 5
structure BI (M : Mkd) (D : Cells) : Prop where
  inv : MInv M
  ln : In5L M.1
  nd : (keyL D).Nodup
  mem : ∀ p, p ∈ keyL D ↔ MSem M p
theorem in5_len {ls : Lines} (g : G3 ls) (h : In5L ls) {j : Nat} (hj : j < 3) : (ls.getD j []).length ≤ 6 := asc_bnd (g.asc j hj) fun x hx => by have := h j hj x hx; omega
theorem in5_b3 {ls : Lines} (g : G3 ls) (h : In5L ls) : B3 ls := ⟨Nat.le_trans (in5_len g h (by decide)) (by decide), in5_len g h (by decide), in5_len g h (by decide)⟩
theorem in5_20 {ls : Lines} (g : G3 ls) (h : In5L ls) : L20 ls := fun j hj => Nat.le_trans (in5_len g h hj) (by decide)
theorem in5_sub {a b : Lines} (s : Sub3 a b) (h : In5L b) : In5L a := fun j hj x hx => h j hj x (s j hj x hx)
theorem sem_range {ls : Lines} {ks : List Cell} (g : G3 ls) (wf : WF ls ks) (h : In5L ls) {p : Cell} (hp : Sem ls ks p) : p ∈ triplesF (rng 0 5) (rng 0 5) (rng 0 5) := by
  have q : ∀ j < 3, 0 ≤ axOf p j ∧ axOf p j < 5 := fun j hj => by
    have := wf _ hp j hj
    rw [axOf_ixC hj] at this
    obtain ⟨⟨y, h1, h2⟩, z, h3, h4⟩ := (inR_iff (g.asc j hj) _).mp this
    have a := h j hj y h1
    have b := h j hj z h3
    omega
  exact mem_triples.mpr ⟨mem_rng.mpr (q 0 (by decide)), mem_rng.mpr (q 1 (by decide)), mem_rng.mpr (q 2 (by decide))⟩
theorem cells_reg {p : Cell} (h : p ∈ triplesF (rng 0 5) (rng 0 5) (rng 0 5)) : p ∈ triplesF (rng 0 23) (rng 0 5) (rng 0 5) := by
  rw [mem_triples] at h ⊢
  refine ⟨?_, h.2⟩
  have := mem_rng.mp h.1
  exact mem_rng.mpr (by omega)
theorem BI.len {M : Mkd} {D : Cells} (I : BI M D) : D.length ≤ 125 := by
  have := I.nd.length_le_of_subset fun p hp => sem_range I.inv.g I.inv.wf I.ln ((I.mem p).mp hp)
  rw [triples_len, rng_length] at this
  unfold keyL at this
  rw [List.length_map] at this
  exact this
theorem good_lt {b : Box} (g : GoodB b) : BoxLt b := fun j hj => by
  obtain ⟨⟨a0, a1, a2⟩, ⟨b0, b1, b2⟩, ⟨c0, c1, c2⟩⟩ := g
  rcases lt3 hj with rfl | rfl | rfl
  · exact a1
  · exact b1
  · exact c1
theorem good_5 {b : Box} (g : GoodB b) {j : Nat} (hj : j < 3) : 0 ≤ axOf b.1 j ∧ axOf b.2 j ≤ 5 := by
  obtain ⟨⟨a0, a1, a2⟩, ⟨b0, b1, b2⟩, ⟨c0, c1, c2⟩⟩ := g
  rcases lt3 hj with rfl | rfl | rfl
  · exact ⟨a0, a2⟩
  · exact ⟨b0, b2⟩
  · exact ⟨c0, c2⟩
theorem isBox_of {b : Box} (h : BoxLt b) (hb : ∀ j < 3, -(10 ^ 30) ≤ axOf b.1 j ∧ axOf b.2 j ≤ 10 ^ 30) : isBoxF b = true := by
  unfold isBoxF
  rw [List.all_eq_true]
  intro x hx
  obtain ⟨z, hz, rfl⟩ := List.mem_map.mp hx
  have q : ∀ j < 3, okPair (axOf b.1 j, axOf b.2 j) = true := fun j hj => by
    unfold okPair
    rw [Bool.and_eq_true, Bool.and_eq_true]
    exact ⟨decide_eq_true (hb j hj).1, decide_eq_true (h j hj), decide_eq_true (hb j hj).2⟩
  have e : (trip b.1).zip (trip b.2) = [(axOf b.1 0, axOf b.2 0), (axOf b.1 1, axOf b.2 1), (axOf b.1 2, axOf b.2 2)] := rfl
  rw [e] at hz
  simp only [List.mem_cons, List.not_mem_nil, or_false] at hz
  rcases hz with rfl | rfl | rfl
  · exact q 0 (by decide)
  · exact q 1 (by decide)
  · exact q 2 (by decide)
theorem good_box {b : Box} (g : GoodB b) : isBoxF b = true := isBox_of (good_lt g) fun j hj => by
  have := good_5 g hj
  have := good_lt g j hj
  omega
theorem law_keys {b : Box} {p : Cell} : p ∈ keyL (lawC b) ↔ InBox b p := by
  unfold lawC
  show p ∈ (dputs [] _).map (·.1) ↔ _
  rw [dputs_keys, List.mem_map]
  unfold lawE
  simp only [List.mem_flatMap, List.mem_singleton]
  constructor
  · rintro ⟨x, ⟨i, hi, j, hj, k, hk, rfl⟩, rfl⟩
    intro a ha
    rcases lt3 ha with rfl | rfl | rfl
    · exact mem_rng.mp hi
    · exact mem_rng.mp hj
    · exact mem_rng.mp hk
  · intro h
    exact ⟨(p, true), ⟨p.1, mem_rng.mpr (h 0 (by decide)), p.2.1, mem_rng.mpr (h 1 (by decide)), p.2.2, mem_rng.mpr (h 2 (by decide)), rfl⟩, rfl⟩
theorem law_nd {b : Box} : (keyL (lawC b)).Nodup := dputs_nd _
theorem blk_in5 {b : Box} {nm : Str} (g : GoodB b) : In5L (blkF b nm).1 := fun j hj x hx => by
  have := good_5 g hj
  have := good_lt g j hj
  rcases blk_line (good_lt g) hj hx with rfl | rfl <;> omega
theorem opL_in5 {M T : Mkd} (I : MInv M) (J : MInv T) (h1 : In5L M.1) (h2 : In5L T.1) : In5L (opL M T) := fun j hj x hx => by
  rcases (merged_mem I.g.len J.g.len hj).mp hx with h | h
  · exact h1 j hj x h
  · exact h2 j hj x h
theorem op_BI {P : Program} {w : World} (hh : HashOn P w) {M : Mkd} {D : Cells} {b : Box} {nm wd : Str} {D' : Cells} (I : BI M D) (g : GoodB b) (nd : (keyL D').Nodup) (hm : ∀ p, p ∈ keyL D' ↔ opW wd (p ∈ keyL D) (InBox b p)) :
    OpOk2 P w wd M (blkF b nm) ∧ BI (opF M (blkF b nm) wd) D' := by
  have J := blk_minv (nm := nm) (good_lt g)
  have l5 := opL_in5 I.inv J I.ln (blk_in5 g)
  have b3 := in5_b3 (opL_g I.inv J) l5
  have lf : In5L (opF M (blkF b nm) wd).1 := in5_sub (opF_sub I.inv J) l5
  have im := opF_minv (wd := wd) I.inv J b3
  refine ⟨⟨opOk_of hh I.inv J b3, few_true im.g.len (in5_20 im.g lf)⟩, im, lf, nd, fun p => ?_⟩
  rw [hm p]
  unfold MSem
  rw [opF_sem I.inv J]
  exact opW_congr (I.mem p) (blk_sem (nm := nm) (good_lt g)).symm
theorem names_in {nm : Str} (h : nm ∈ names4) : nm ∈ nameL := by
  unfold names4 at h
  unfold nameL
  simp only [List.mem_cons, List.not_mem_nil, or_false] at h ⊢
  rcases h with rfl | rfl | rfl | rfl <;> simp
theorem filt_keys {D : Cells} {f : Cell → Bool} {p : Cell} : p ∈ keyL (dputs [] (((keyL D).filter f).map tru)) ↔ p ∈ keyL D ∧ f p = true := by
  have := cdict_keys (cs := (keyL D).filter f) (c := p)
  unfold cdict at this
  rw [this, List.mem_filter]
theorem bi_nil : BI noM [] := by
  have g : G3 noL := ⟨rfl, fun j hj => by
    rcases lt3 hj with rfl | rfl | rfl
    · exact List.Pairwise.nil
    · exact List.Pairwise.nil
    · exact List.Pairwise.nil⟩
  refine ⟨⟨g, fun c hc => (nomatch hc), List.Pairwise.nil, List.Pairwise.nil, fun q hq => (nomatch hq), fun c hc => (nomatch hc), ⟨by decide, by decide, by decide⟩⟩, fun j hj x hx => ?_, List.Pairwise.nil, fun p => ?_⟩
  · rcases lt3 hj with rfl | rfl | rfl
    · exact nomatch hx
    · exact nomatch hx
    · exact nomatch hx
  · constructor
    · intro h; exact nomatch h
    · intro h; exact nomatch (show ixC noL p ∈ ([] : List Cell) from h)
theorem bstep {P : Program} {w : World} (hh : HashOn P w) : BStep P w BI where
  z := bi_nil
  blk := fun b nm g hn => blkOk_of (good_lt g) (good_box g) (names_in hn)
  join := fun M D b nm I g hn => by
    have h := op_BI hh (nm := nm) (wd := "joined") (D' := dputs D (lawC b)) I g (dputs_nodup _ _ I.nd) fun p => by
      rw [dputs_keys2, law_keys]
      unfold opW
      rw [if_pos rfl]
    refine ⟨h.1, ?_, hash_nd hh law_nd fun c hc => ?_, h.2⟩
    · have h1 := I.len
      have h2 := dputs_length (lawE b) []
      have h3 := lawE_len g
      unfold lawC
      show _ ≤ 1000000
      simp only [List.length_nil] at h2
      omega
    · refine cells_reg ?_
      have := law_keys.mp hc
      have q : ∀ j < 3, 0 ≤ axOf c j ∧ axOf c j < 5 := fun j hj => by
        have := this j hj
        have := good_5 g hj
        omega
      exact mem_triples.mpr ⟨mem_rng.mpr (q 0 (by decide)), mem_rng.mpr (q 1 (by decide)), mem_rng.mpr (q 2 (by decide))⟩
  cut := fun M D b nm I g hn => by
    have h := op_BI hh (nm := nm) (wd := "cut") (D' := cutD D (lawC b)) I g (dputs_nd _) fun p => by
      unfold cutD
      rw [filt_keys]
      unfold opW
      rw [if_neg (by decide), ← law_keys, ← keyL_mem (l := lawC b)]
      refine and_congr_right fun _ => ?_
      have : ¬ (("cut" : Str) = ("met" : Str)) := by decide
      cases (dget (lawC b) p).isSome <;> simp [this]
    exact ⟨h.1, Nat.le_trans I.len (by decide), h.2⟩
  met := fun M D b nm I g hn => by
    have h := op_BI hh (nm := nm) (wd := "met") (D' := metD D (lawC b)) I g (dputs_nd _) fun p => by
      unfold metD
      rw [filt_keys]
      unfold opW
      rw [if_neg (by decide), ← law_keys, ← keyL_mem (l := lawC b)]
      refine and_congr_right fun _ => ?_
      cases (dget (lawC b) p).isSome <;> simp
    exact ⟨h.1, Nat.le_trans I.len (by decide), h.2⟩
/-! ### a bout -/
theorem more_mem {D E : Cells} {p : Cell} : p ∈ moreF D E ↔ p ∈ keyL E ∧ p ∉ keyL D := by
  unfold moreF
  rw [List.mem_filter]
  refine and_congr_right fun _ => ?_
  rw [← keyL_mem (l := D)]
  cases (dget D p).isSome <;> simp
theorem bot_in5 {A B : Sol} (I : SInv A) (J : SInv B) (h1 : In5L A.1) (h2 : In5L B.1) : In5L (botL A B) := fun j hj x hx => by
  rcases (bot_mem I J hj).mp hx with h | h
  · exact h1 j hj x h
  · exact h2 j hj x h
structure S5 (s : Sol) : Prop where
  inv : SInv s
  ln : In5L s.1
theorem ts5 {M : Mkd} {D : Cells} (I : BI M D) : S5 (tsF M) := ⟨ts_inv I.inv, in5_sub (ts_sub I.inv) I.ln⟩
section
variable {A B : Sol} (I : S5 A) (J : S5 B)
include I J
theorem bot5 : In5L (botL A B) := bot_in5 I.inv J.inv I.ln J.ln
theorem bot5b : B3 (botL A B) := in5_b3 (bot_g I.inv J.inv) (bot5 I J)
theorem bot5l : L20 (botL A B) := in5_20 (bot_g I.inv J.inv) (bot5 I J)
theorem sub5 : S5 (subF A B) := ⟨sub_inv I.inv J.inv (bot5b I J), in5_sub (sub_lines I.inv J.inv) (bot5 I J)⟩
theorem or5 : S5 (orF A B) := ⟨or_inv I.inv J.inv (bot5b I J), in5_sub (or_lines I.inv J.inv) (bot5 I J)⟩
theorem subOk5 : SubOk A B := subOk_of I.inv J.inv (bot5b I J)
theorem subT5 : subOk A B = true := subOk_true I.inv J.inv (bot5l I J)
end
theorem bout_of {P : Program} {w : World} (hh : HashOn P w) {M N : Mkd} {D E : Cells} (I : BI M D) (J : BI N E) : BoutOk P w M D N E := by
  have i := ts5 I
  have j := ts5 J
  have tm := tsOk_of I.inv (in5_20 I.inv.g I.ln)
  have tn := tsOk_of J.inv (in5_20 J.inv.g J.ln)
  have dif : ∀ {A B : Cells}, A.length ≤ 125 → (keyL A).Nodup → (keyL B).Nodup → (moreF A B).Nodup := fun _ _ n => List.Nodup.sublist List.filter_sublist n
  have isok : ∀ {M N : Mkd} {D E : Cells}, BI M D → BI N E → IsOk (subF (tsF N) (tsF M)) (moreF D E) := fun {M N D E} I J => by
    have s := sub5 (ts5 J) (ts5 I)
    refine isOk_of s.inv s.ln (List.Nodup.sublist List.filter_sublist J.nd) ?_ fun p => ?_
    · have h1 := J.len
      have h2 : (moreF D E).length ≤ (keyL E).length := List.length_filter_le _ _
      unfold keyL at h2
      rw [List.length_map] at h2
      show _ ≤ 1000000
      omega
    · rw [more_mem, sub_sem (ts5 J).inv (ts5 I).inv, ts_sem J.inv, ts_sem I.inv, J.mem, I.mem]
  have emp : ∀ {M : Mkd} {D : Cells}, BI M D → (subF (tsF M) (tsF M)).2.isEmpty = true := fun {M D} I => empty_of (sub5 (ts5 I) (ts5 I)).inv fun p hp => by
    obtain ⟨h1, h2⟩ := (sub_sem (ts5 I).inv (ts5 I).inv).mp hp
    exact h2 h1
  have a5 : S5 (addF M N) := sub5 j i
  have t5 : S5 (takF M N) := sub5 i j
  have o5 : S5 (orF (tsF M) (addF M N)) := or5 i a5
  refine ⟨tm, tn, bxOk_of i.inv, bxOk_of j.inv, Nat.le_trans I.len (by decide), Nat.le_trans J.len (by decide), ⟨tn, tm, subOk5 j i⟩, subT5 j i, isok I J, ⟨tm, tn, subOk5 i j⟩, subT5 i j, isok J I, ⟨tm, tm, subOk5 i i⟩, subT5 i i, emp I, ⟨tn, tn, subOk5 j j⟩, subT5 j j, emp J,
    orOk_of hh i.inv a5.inv (bot5b i a5) (bot5l i a5), subOk5 o5 t5, subT5 o5 t5, ?_⟩
  refine og_same (bot_g o5.inv t5.inv) (subC_wf o5.inv t5.inv) J.inv.g J.inv.wf fun p => ?_
  rw [subC_sem o5.inv t5.inv, or_sem i.inv a5.inv]
  unfold addF takF
  rw [sub_sem j.inv i.inv, sub_sem i.inv j.inv, ts_sem I.inv, ts_sem J.inv]
  show _ ↔ MSem N p
  generalize MSem M p = x
  generalize MSem N p = y
  constructor
  · rintro ⟨h1 | h1, h2⟩
    · exact Classical.byContradiction fun z => h2 ⟨h1, z⟩
    · exact h1.1
  · intro h
    refine ⟨?_, fun z => z.2 h⟩
    by_cases hx : x
    · exact .inl hx
    · exact .inr ⟨h, hx⟩
end SN
end TMJ

section TMK
set_option Elab.async false
set_option linter.all false
set_option maxRecDepth 100000
set_option maxHeartbeats 400017
/-! MK: plain: the comb. -/
namespace SN
open PySem

theorem step_pos {s : Int} (h : StepOk s) : 1 ≤ s ∧ s ≤ 1 + 10 ^ 28 := by
  rcases h with ⟨h1, h2⟩ | h
  · exact ⟨h1, by omega⟩
  · exact ⟨by omega, by omega⟩
section
variable {s : Int}
theorem mul_lt' (hs : 1 ≤ s) {m n : Int} (h : m < n) : m * s + s ≤ n * s := by
  have := Int.mul_le_mul_of_nonneg_right (show m + 1 ≤ n by omega) (show 0 ≤ s by omega)
  rw [Int.add_mul, Int.one_mul] at this
  exact this
theorem mul_le' (hs : 1 ≤ s) {m n : Int} (h : m ≤ n) : m * s ≤ n * s := Int.mul_le_mul_of_nonneg_right h (by omega)
theorem lo_iff (hs : 1 ≤ s) {m n r : Int} (h0 : 0 ≤ r) (h1 : r < s) : n * s ≤ m * s + r ↔ n ≤ m := by
  constructor
  · intro h
    rcases Int.lt_or_le m n with z | z
    · have := mul_lt' hs z; omega
    · exact z
  · intro h; have := mul_le' hs h; omega
theorem hi_iff (hs : 1 ≤ s) {m n r : Int} (h0 : 0 ≤ r) (h1 : r < s) : m * s + r < n * s ↔ m < n := by
  constructor
  · intro h
    rcases Int.lt_or_le m n with z | z
    · exact z
    · have := mul_le' hs z; omega
  · intro h; have := mul_lt' hs h; omega
theorem tooth0 (s : Int) (k : Nat) : axOf (toothB s k).1 0 = 2 * (k : Int) * s ∧ axOf (toothB s k).2 0 = (2 * (k : Int) + 1) * s := ⟨rfl, rfl⟩
theorem tooth_ax (s : Int) (k : Nat) {j : Nat} (hj : j < 3) (h : j ≠ 0) : axOf (toothB s k).1 j = 0 ∧ axOf (toothB s k).2 j = 1 := by
  rcases lt3 hj with rfl | rfl | rfl
  · exact absurd rfl h
  · exact ⟨rfl, rfl⟩
  · exact ⟨rfl, rfl⟩
theorem bar0 (s : Int) : axOf (barB s).1 0 = 0 - s ∧ axOf (barB s).2 0 = 30 * s := ⟨rfl, rfl⟩
theorem bar_ax (s : Int) {j : Nat} (hj : j < 3) (h : j ≠ 0) : axOf (barB s).1 j = 0 ∧ axOf (barB s).2 j = 1 := by
  rcases lt3 hj with rfl | rfl | rfl
  · exact absurd rfl h
  · exact ⟨rfl, rfl⟩
  · exact ⟨rfl, rfl⟩
theorem tooth_lt (hs : 1 ≤ s) (k : Nat) : BoxLt (toothB s k) := fun j hj => by
  by_cases h : j = 0
  · subst h
    have := mul_lt' hs (show 2 * (k : Int) < 2 * (k : Int) + 1 by omega)
    rw [(tooth0 s k).1, (tooth0 s k).2]; omega
  · rw [(tooth_ax s k hj h).1, (tooth_ax s k hj h).2]; omega
theorem bar_lt (hs : 1 ≤ s) : BoxLt (barB s) := fun j hj => by
  by_cases h : j = 0
  · subst h; rw [(bar0 s).1, (bar0 s).2]; omega
  · rw [(bar_ax s hj h).1, (bar_ax s hj h).2]; omega
theorem tooth_box (h : StepOk s) {k : Nat} (hk : k < 10) : isBoxF (toothB s k) = true := by
  obtain ⟨h1, h2⟩ := step_pos h
  refine isBox_of (tooth_lt h1 k) fun j hj => ?_
  by_cases e : j = 0
  · subst e
    rw [(tooth0 s k).1, (tooth0 s k).2]
    have a := mul_le' h1 (show 0 ≤ 2 * (k : Int) by omega)
    have b := mul_le' h1 (show 2 * (k : Int) + 1 ≤ 19 by omega)
    omega
  · rw [(tooth_ax s k hj e).1, (tooth_ax s k hj e).2]; omega
theorem bar_box (h : StepOk s) : isBoxF (barB s) = true := by
  obtain ⟨h1, h2⟩ := step_pos h
  refine isBox_of (bar_lt h1) fun j hj => ?_
  by_cases e : j = 0
  · subst e
    rw [(bar0 s).1, (bar0 s).2]
    omega
  · rw [(bar_ax s hj e).1, (bar_ax s hj e).2]; omega
/-! ### lines of the comb -/
/-- lines: along x among m·s with lo ≤ m < hi, else 0 and 1 -/
structure LC (s lo hi : Int) (ls : Lines) : Prop where
  x : ∀ x ∈ ls.getD 0 [], ∃ m, lo ≤ m ∧ m < hi ∧ x = m * s
  y : ∀ j < 3, j ≠ 0 → ∀ x ∈ ls.getD j [], x = 0 ∨ x = 1
theorem LC.mono {lo hi lo' hi' : Int} {ls : Lines} (h : LC s lo hi ls) (a : lo' ≤ lo) (b : hi ≤ hi') : LC s lo' hi' ls := ⟨fun x hx => by
  obtain ⟨m, h1, h2, h3⟩ := h.x x hx
  exact ⟨m, by omega, by omega, h3⟩, h.y⟩
theorem LC.sub {lo hi : Int} {a b : Lines} (h : LC s lo hi b) (u : Sub3 a b) : LC s lo hi a := ⟨fun x hx => h.x x (u 0 (by decide) x hx), fun j hj e x hx => h.y j hj e x (u j hj x hx)⟩
theorem LC.len0 {lo hi : Int} {ls : Lines} (h : LC s lo hi ls) (g : G3 ls) : (ls.getD 0 []).length ≤ (hi - lo).toNat := by
  have n : (ls.getD 0 []).Nodup := (g.asc 0 (by decide)).imp fun h => by omega
  have := n.length_le_of_subset (l₂ := (rng lo hi).map fun m => m * s) fun x hx => by
    obtain ⟨m, h1, h2, rfl⟩ := h.x x hx
    exact List.mem_map.mpr ⟨m, mem_rng.mpr ⟨h1, h2⟩, rfl⟩
  rwa [List.length_map, rng_length] at this
theorem LC.lenj {lo hi : Int} {ls : Lines} (h : LC s lo hi ls) (g : G3 ls) {j : Nat} (hj : j < 3) (e : j ≠ 0) : (ls.getD j []).length ≤ 2 := asc_bnd (g.asc j hj) fun x hx => by
  rcases h.y j hj e x hx with rfl | rfl <;> decide
theorem LC.b3 {lo hi : Int} {ls : Lines} (h : LC s lo hi ls) (g : G3 ls) (hz : hi - lo ≤ 24) : B3 ls :=
  ⟨by have := h.len0 g; omega, by have := h.lenj g (j := 1) (by decide) (by decide); omega, by have := h.lenj g (j := 2) (by decide) (by decide); omega⟩
theorem LC.l20 {lo hi : Int} {ls : Lines} (h : LC s lo hi ls) (g : G3 ls) (hz : hi - lo ≤ 20) : L20 ls := fun j hj => by
  by_cases e : j = 0
  · subst e; have := h.len0 g; omega
  · have := h.lenj g hj e; omega
theorem LC.merge {lo hi : Int} {a b : Lines} (ga : a.length = 3) (gb : b.length = 3) (h1 : LC s lo hi a) (h2 : LC s lo hi b) : LC s lo hi (mergedF a b) := ⟨fun x hx => by
  rcases (merged_mem ga gb (by decide)).mp hx with h | h
  · exact h1.x x h
  · exact h2.x x h, fun j hj e x hx => by
  rcases (merged_mem ga gb hj).mp hx with h | h
  · exact h1.y j hj e x h
  · exact h2.y j hj e x h⟩
theorem tooth_LC (hs : 1 ≤ s) (k : Nat) : LC s (2 * k) (2 * k + 2) (blkF (toothB s k) "a").1 := ⟨fun x hx => by
  rcases blk_line (tooth_lt hs k) (by decide) hx with e | e
  · exact ⟨2 * k, by omega, by omega, e⟩
  · exact ⟨2 * k + 1, by omega, by omega, e⟩, fun j hj h x hx => by
  rcases blk_line (tooth_lt hs k) hj hx with e | e
  · exact .inl (e.trans (tooth_ax s k hj h).1)
  · exact .inr (e.trans (tooth_ax s k hj h).2)⟩
structure CI (s : Int) (k : Nat) (M : Mkd) : Prop where
  inv : MInv M
  ln : LC s 0 (2 * k) M.1
  sem : ∀ p, MSem M p ↔ ∃ i < k, InBox (toothB s i) p
theorem cmb_ci (hs : 1 ≤ s) : ∀ k : Nat, k ≤ 10 → CI s k (cmb s k)
  | 0, _ => ⟨bi_nil.inv, ⟨fun x hx => (nomatch hx), fun j hj e x hx => by
      rcases lt3 hj with rfl | rfl | rfl
      · exact nomatch hx
      · exact nomatch hx
      · exact nomatch hx⟩, fun p => ⟨fun h => (nomatch (show ixC noL p ∈ ([] : List Cell) from h)), fun ⟨i, h, _⟩ => absurd h (Nat.not_lt_zero i)⟩⟩
  | k + 1, hk => by
    have I := cmb_ci hs k (by omega)
    have J := blk_minv (nm := "a") (tooth_lt hs k)
    have l : LC s 0 (2 * ((k + 1 : Nat) : Int)) (opL (cmb s k) (blkF (toothB s k) "a")) := LC.merge I.inv.g.len J.g.len (I.ln.mono (by omega) (by push_cast; omega)) ((tooth_LC hs k).mono (by omega) (by push_cast; omega))
    have g := opL_g I.inv J
    have b := l.b3 g (by push_cast; omega)
    refine ⟨opF_minv I.inv J b, l.sub (opF_sub I.inv J), fun p => ?_⟩
    show Sem (opF (cmb s k) (blkF (toothB s k) "a") "joined").1 (keyL (opF (cmb s k) (blkF (toothB s k) "a") "joined").2.1) p ↔ _
    rw [opF_sem I.inv J]
    unfold opW
    rw [if_pos rfl]
    have e1 := I.sem p
    have e2 := blk_sem (nm := "a") (p := p) (tooth_lt hs k)
    unfold MSem at e1 e2
    rw [e1, e2]
    constructor
    · rintro (⟨i, h1, h2⟩ | h)
      · exact ⟨i, by omega, h2⟩
      · exact ⟨k, by omega, h⟩
    · rintro ⟨i, h1, h2⟩
      rcases Nat.lt_or_ge i k with z | z
      · exact .inl ⟨i, z, h2⟩
      · exact .inr (by rw [show k = i by omega]; exact h2)
theorem bar_LC (hs : 1 ≤ s) : ∀ x ∈ (barM s).1.getD 0 [], x = -1 * s ∨ x = 30 * s := fun x hx => by
  rcases blk_line (bar_lt hs) (by decide) hx with e | e
  · left; rw [e, (bar0 s).1]; omega
  · right; exact e
theorem bar_y (hs : 1 ≤ s) : ∀ j < 3, j ≠ 0 → ∀ x ∈ (barM s).1.getD j [], x = 0 ∨ x = 1 := fun j hj h x hx => by
  rcases blk_line (bar_lt hs) hj hx with e | e
  · exact .inl (e.trans (bar_ax s hj h).1)
  · exact .inr (e.trans (bar_ax s hj h).2)
/-- lines of the bar and of a comb with k teeth: at most 2k + 2 -/
theorem both_len (hs : 1 ≤ s) {k : Nat} (hk : k ≤ 10) {ls : Lines} (g : G3 ls) (h : ∀ j < 3, ∀ x ∈ ls.getD j [], x ∈ (barM s).1.getD j [] ∨ x ∈ (cmb s k).1.getD j []) : (ls.getD 0 []).length ≤ 2 * k + 2 ∧ ∀ j < 3, j ≠ 0 → (ls.getD j []).length ≤ 2 := by
  have I := cmb_ci hs k hk
  refine ⟨?_, fun j hj e => asc_bnd (g.asc j hj) fun x hx => ?_⟩
  · have n : (ls.getD 0 []).Nodup := (g.asc 0 (by decide)).imp fun h => by omega
    have := n.length_le_of_subset (l₂ := (-1 * s) :: (30 * s) :: (rng 0 (2 * k)).map fun m => m * s) fun x hx => by
      rcases h 0 (by decide) x hx with z | z
      · rcases bar_LC hs x z with rfl | rfl
        · exact List.mem_cons_self ..
        · exact List.mem_cons_of_mem _ (List.mem_cons_self ..)
      · obtain ⟨m, h1, h2, rfl⟩ := I.ln.x x z
        exact List.mem_cons_of_mem _ (List.mem_cons_of_mem _ (List.mem_map.mpr ⟨m, mem_rng.mpr ⟨h1, h2⟩, rfl⟩))
    rw [List.length_cons, List.length_cons, List.length_map, rng_length] at this
    omega
  · rcases h j hj x hx with z | z
    · rcases bar_y hs j hj e x z with rfl | rfl <;> decide
    · rcases I.ln.y j hj e x z with rfl | rfl <;> decide
theorem at_m (hs : 1 ≤ s) {m r : Int} (h0 : 0 ≤ r) (h1 : r < s) (i : Nat) : InBox (toothB s i) (m * s + r, 0, 0) ↔ m = 2 * (i : Int) := by
  have e0 : axOf (m * s + r, 0, 0) 0 = m * s + r := rfl
  constructor
  · intro h
    have := h 0 (by decide)
    rw [(tooth0 s i).1, (tooth0 s i).2, e0, lo_iff hs h0 h1, hi_iff hs h0 h1] at this
    omega
  · intro h j hj
    by_cases e : j = 0
    · subst e
      rw [(tooth0 s i).1, (tooth0 s i).2, e0, lo_iff hs h0 h1, hi_iff hs h0 h1]
      omega
    · rw [(tooth_ax s i hj e).1, (tooth_ax s i hj e).2]
      rcases lt3 hj with rfl | rfl | rfl
      · exact absurd rfl e
      · exact (by decide : (0 : Int) ≤ 0 ∧ (0 : Int) < 1)
      · exact (by decide : (0 : Int) ≤ 0 ∧ (0 : Int) < 1)
theorem bar_m (hs : 1 ≤ s) {m r : Int} (h0 : 0 ≤ r) (h1 : r < s) : InBox (barB s) (m * s + r, 0, 0) ↔ -1 ≤ m ∧ m < 30 := by
  have e0 : axOf (m * s + r, 0, 0) 0 = m * s + r := rfl
  have e1 : (0 : Int) - s = -1 * s := by omega
  constructor
  · intro h
    have := h 0 (by decide)
    rw [(bar0 s).1, (bar0 s).2, e0, e1, lo_iff hs h0 h1, hi_iff hs h0 h1] at this
    exact this
  · intro h j hj
    by_cases e : j = 0
    · subst e
      rw [(bar0 s).1, (bar0 s).2, e0, e1, lo_iff hs h0 h1, hi_iff hs h0 h1]
      exact h
    · rw [(bar_ax s hj e).1, (bar_ax s hj e).2]
      rcases lt3 hj with rfl | rfl | rfl
      · exact absurd rfl e
      · exact (by decide : (0 : Int) ≤ 0 ∧ (0 : Int) < 1)
      · exact (by decide : (0 : Int) ≤ 0 ∧ (0 : Int) < 1)
theorem comb_in_bar (hs : 1 ≤ s) {i : Nat} (hi : i < 10) {p : Cell} (h : InBox (toothB s i) p) : InBox (barB s) p := fun j hj => by
  have q := h j hj
  by_cases e : j = 0
  · subst e
    rw [(tooth0 s i).1, (tooth0 s i).2] at q
    rw [(bar0 s).1, (bar0 s).2]
    have a := mul_le' hs (show 0 ≤ 2 * (i : Int) by omega)
    have b := mul_le' hs (show 2 * (i : Int) + 1 ≤ 30 by omega)
    omega
  · rw [(tooth_ax s i hj e).1, (tooth_ax s i hj e).2] at q
    rw [(bar_ax s hj e).1, (bar_ax s hj e).2]
    exact q
theorem comb_of {P : Program} {w : World} (hh : HashOn P w) (so : StepOk s) : CombOk P w s := by
  obtain ⟨hs, hs2⟩ := step_pos so
  have BM : MInv (barM s) := blk_minv (bar_lt hs)
  have bl0 : ∀ j < 3, ((barM s).1.getD j []).length ≤ 2 := fun j hj => by
    have n : ((barM s).1.getD j []).Nodup := (BM.g.asc j hj).imp fun h => by omega
    exact n.length_le_of_subset (l₂ := [axOf (barB s).1 j, axOf (barB s).2 j]) fun x hx => by
      rcases blk_line (bar_lt hs) hj hx with e | e
      · rw [e]; exact List.mem_cons_self ..
      · rw [e]; exact List.mem_cons_of_mem _ (List.mem_cons_self ..)
  have tB : TsOk (barM s) := tsOk_of BM fun j hj => Nat.le_trans (bl0 j hj) (by decide)
  have CM : ∀ k, k ≤ 10 → CI s k (cmb s k) := cmb_ci hs
  have tC : ∀ k, k ≤ 10 → TsOk (cmb s k) := fun k hk => tsOk_of (CM k hk).inv ((CM k hk).ln.l20 (CM k hk).inv.g (by omega))
  have A := ts_inv BM
  have C : ∀ k, k ≤ 10 → SInv (tsF (cmb s k)) := fun k hk => ts_inv (CM k hk).inv
  have len1 : ∀ k (hk : k ≤ 10), ((botL (tsF (barM s)) (tsF (cmb s k))).getD 0 []).length ≤ 2 * k + 2 ∧ ∀ j < 3, j ≠ 0 → ((botL (tsF (barM s)) (tsF (cmb s k))).getD j []).length ≤ 2 := fun k hk => both_len hs hk (bot_g A (C k hk)) fun j hj x hx => by
    rcases (bot_mem A (C k hk) hj).mp hx with h | h
    · exact .inl (ts_sub BM j hj x h)
    · exact .inr (ts_sub (CM k hk).inv j hj x h)
  have len2 : ((botL (tsF (cmb s 10)) (tsF (barM s))).getD 0 []).length ≤ 22 ∧ ∀ j < 3, j ≠ 0 → ((botL (tsF (cmb s 10)) (tsF (barM s))).getD j []).length ≤ 2 := both_len (k := 10) hs (by decide) (bot_g (C 10 (by decide)) A) fun j hj x hx => by
    rcases (bot_mem (C 10 (by decide)) A hj).mp hx with h | h
    · exact .inr (ts_sub (CM 10 (by decide)).inv j hj x h)
    · exact .inl (ts_sub BM j hj x h)
  have b3 : ∀ {ls : Lines} {n : Nat}, n ≤ 24 → ((ls.getD 0 []).length ≤ n ∧ ∀ j < 3, j ≠ 0 → (ls.getD j []).length ≤ 2) → B3 ls := fun {ls n} hn h => ⟨Nat.le_trans h.1 hn, Nat.le_trans (h.2 1 (by decide) (by decide)) (by decide), Nat.le_trans (h.2 2 (by decide) (by decide)) (by decide)⟩
  have semC : ∀ k (hk : k ≤ 10) p, SSem (tsF (cmb s k)) p ↔ ∃ i < k, InBox (toothB s i) p := fun k hk p => (ts_sem (CM k hk).inv).trans ((CM k hk).sem p)
  have semB : ∀ p, SSem (tsF (barM s)) p ↔ InBox (barB s) p := fun p => (ts_sem BM).trans (blk_sem (bar_lt hs))
  have s9 : SubOk (tsF (barM s)) (tsF (cmb s 9)) := subOk_of A (C 9 (by decide)) (b3 (by decide) (len1 9 (by decide)))
  have s10 : SubOk (tsF (barM s)) (tsF (cmb s 10)) := subOk_of A (C 10 (by decide)) (b3 (by decide) (len1 10 (by decide)))
  have sba : SubOk (tsF (cmb s 10)) (tsF (barM s)) := subOk_of (C 10 (by decide)) A (b3 (by decide) len2)
  have none : ∀ p, ¬ SSem (subF (tsF (cmb s 10)) (tsF (barM s))) p := fun p hp => by
    obtain ⟨h1, h2⟩ := (sub_sem (C 10 (by decide)) A).mp hp
    obtain ⟨i, hi, h3⟩ := (semC 10 (by decide) p).mp h1
    exact h2 ((semB p).mpr (comb_in_bar hs hi h3))
  refine ⟨blkOk_of (bar_lt hs) (bar_box so) (by unfold nameL; simp), fun k hk => ⟨blkOk_of (tooth_lt hs k) (tooth_box so hk) (by unfold nameL; simp), ?_⟩, ⟨⟨tB, tC 9 (by decide), s9⟩, ?_⟩, ⟨⟨tB, tC 10 (by decide), s10⟩, ?_⟩, ⟨tC 10 (by decide), tB, sba⟩, ?_, ?_⟩
  · have I := CM k (by omega)
    have J := blk_minv (nm := "a") (tooth_lt hs k)
    have l : LC s 0 (2 * ((k + 1 : Nat) : Int)) (opL (cmb s k) (blkF (toothB s k) "a")) := LC.merge I.inv.g.len J.g.len (I.ln.mono (by omega) (by push_cast; omega)) ((tooth_LC hs k).mono (by omega) (by push_cast; omega))
    have b := l.b3 (opL_g I.inv J) (by push_cast; omega)
    have N := CM (k + 1) (by omega)
    exact ⟨opOk_of hh I.inv J b, few_true N.inv.g.len (N.ln.l20 N.inv.g (by push_cast; omega))⟩
  · exact subOk_true A (C 9 (by decide)) fun j hj => by
      have := len1 9 (by decide)
      by_cases e : j = 0
      · subst e; exact this.1
      · exact Nat.le_trans (this.2 j hj e) (by decide)
  · unfold subOk
    rw [okG_eq]
    have g := bot_g A (C 10 (by decide))
    have wf := subC_wf A (C 10 (by decide))
    have og := (og_inv g wf (b3 (by decide) (len1 10 (by decide)))).g
    refine few_false og.len (j := 0) (by decide) ?_
    have nd : ((rng (-1) 20).map fun m => m * s).Nodup := by
      unfold List.Nodup
      rw [List.pairwise_map]
      exact (rng_nodup _ _).imp fun {a b} h z => h (by
        rcases Int.lt_trichotomy a b with q | q | q
        · have := mul_lt' hs q; omega
        · exact q
        · have := mul_lt' hs q; omega)
    have := nd.length_le_of_subset (l₂ := (ogP (botL (tsF (barM s)) (tsF (cmb s 10))) (subC (tsF (barM s)) (tsF (cmb s 10)))).1.getD 0 []) fun x hx => by
      obtain ⟨m, hm, rfl⟩ := List.mem_map.mp hx
      obtain ⟨m1, m2⟩ := mem_rng.mp hm
      refine (og_lines g wf (by decide)).mpr ⟨(m * s, 0, 0), rfl, fun z => ?_⟩
      have e1 : ((m * s, 0, 0) : Cell) = (m * s + 0, 0, 0) := by rw [Int.add_zero]
      have e2 : setAx ((m * s, 0, 0) : Cell) 0 (m * s - 1) = ((m - 1) * s + (s - 1), 0, 0) := by
        show ((m * s - 1, 0, 0) : Cell) = _
        rw [Int.sub_mul, Int.one_mul]
        congr 1
        omega
      have q : ∀ n r : Int, 0 ≤ r → r < s → (Sem (botL (tsF (barM s)) (tsF (cmb s 10))) (subC (tsF (barM s)) (tsF (cmb s 10))) (n * s + r, 0, 0) ↔ (-1 ≤ n ∧ n < 30) ∧ ¬ ∃ i < 10, n = 2 * ((i : Nat) : Int)) := fun n r h0 h1 => by
        rw [subC_sem A (C 10 (by decide)), semB, semC 10 (by decide), bar_m hs h0 h1]
        refine and_congr_right fun _ => not_congr (exists_congr fun i => and_congr_right fun _ => at_m hs h0 h1 i)
      rw [e2, q _ _ (by omega) (by omega)] at z
      have z2 := z
      rw [e1, q _ _ (by omega) (by omega)] at z2
      have ev : ∀ n : Int, (∃ i < 10, n = 2 * ((i : Nat) : Int)) ↔ (0 ≤ n ∧ n < 20 ∧ n % 2 = 0) := fun n => by
        constructor
        · rintro ⟨i, h1, h2⟩; omega
        · rintro ⟨h1, h2, h3⟩; exact ⟨(n / 2).toNat, by omega, by omega⟩
      rw [ev, ev] at z2
      omega
    rw [List.length_map, rng_length] at this
    omega
  · have g := bot_g (C 10 (by decide)) A
    have wf := subC_wf (C 10 (by decide)) A
    refine okG_true g wf fun j hj => ?_
    have : (ogP (botL (tsF (cmb s 10)) (tsF (barM s))) (subC (tsF (cmb s 10)) (tsF (barM s)))).1.getD j [] = [] := List.eq_nil_iff_forall_not_mem.mpr fun x hx => by
      obtain ⟨p, _, z⟩ := (og_lines g wf hj).mp hx
      have no : ∀ p, ¬ Sem (botL (tsF (cmb s 10)) (tsF (barM s))) (subC (tsF (cmb s 10)) (tsF (barM s))) p := fun p hp => none p ((og_sem g wf).mpr hp)
      exact z ⟨fun h => absurd h (no _), fun h => absurd h (no _)⟩
    rw [this]; decide
  · exact empty_of (sub_inv (C 10 (by decide)) A (b3 (by decide) len2)) none
end
end SN
end TMK

section TML
set_option Elab.async false
set_option linter.all false
set_option maxRecDepth 100000
set_option maxHeartbeats 4000017
/-! ML: plain: the cells of a small grid hash apart (printed by gen_hash.py). -/
namespace SN
open PySem
def hashZ (c : Cell) : Int := reduceHash (Builtin.Tuple.tupleHashOf [hashInt c.1, hashInt c.2.1, hashInt c.2.2])
theorem hashC_eq (P : Program) (w : World) (c : Cell) : hashC P w c = hashZ c := rfl
def regL : List Cell := triplesF (rng 0 23) (rng 0 5) (rng 0 5)
/-- the same cells, by their hashes -/
def regS : List Cell := [
  (20, 3, 3), (21, 3, 4), (18, 1, 2), (13, 2, 1), (3, 1, 3), (4, 1, 4), (14, 4, 0), (19, 2, 3), (9, 4, 2), (1, 0, 2), (2, 0, 3), (22, 2, 4),
  (15, 0, 0), (16, 0, 1), (5, 0, 4), (7, 3, 1), (13, 4, 1), (12, 4, 4), (8, 3, 4), (15, 2, 0), (5, 1, 2), (1, 4, 0), (2, 4, 1), (5, 3, 0),
  (17, 2, 0), (7, 2, 4), (20, 2, 1), (10, 1, 3), (21, 2, 2), (11, 1, 4), (18, 0, 0), (3, 0, 1), (0, 4, 4), (7, 4, 2), (10, 4, 3), (9, 3, 0),
  (22, 1, 2), (17, 4, 0), (22, 4, 3), (17, 1, 4), (21, 3, 0), (4, 1, 0), (3, 3, 4), (15, 3, 4), (8, 2, 2), (9, 2, 3), (12, 1, 2), (7, 0, 0),
  (4, 4, 3), (6, 1, 1), (18, 1, 4), (10, 0, 1), (11, 0, 2), (14, 4, 2), (18, 4, 4), (8, 3, 0), (9, 4, 4), (22, 0, 1), (2, 1, 1), (19, 0, 4),
  (13, 3, 1), (11, 1, 0), (13, 4, 3), (17, 3, 3), (14, 1, 1), (4, 2, 3), (16, 1, 1), (15, 2, 2), (5, 1, 4), (16, 2, 3), (19, 1, 2), (1, 0, 3),
  (1, 4, 2), (2, 4, 3), (5, 3, 2), (16, 4, 1), (5, 4, 4), (3, 3, 0), (21, 2, 4), (18, 0, 2), (3, 0, 3), (4, 0, 4), (6, 0, 4), (15, 3, 0),
  (9, 3, 2), (22, 1, 4), (21, 3, 2), (3, 1, 1), (4, 1, 2), (3, 2, 3), (17, 2, 1), (7, 1, 3), (18, 4, 0), (3, 4, 1), (9, 4, 0), (8, 2, 4),
  (5, 0, 2), (19, 0, 0), (15, 4, 1), (5, 2, 0), (11, 0, 4), (0, 3, 4), (18, 2, 1), (12, 3, 4), (2, 1, 3), (21, 2, 0), (11, 1, 2), (4, 0, 0),
  (14, 1, 3), (20, 1, 1), (6, 0, 0), (7, 0, 1), (7, 4, 0), (10, 4, 1), (11, 4, 2), (14, 3, 1), (14, 4, 3), (19, 1, 4), (12, 0, 2), (22, 4, 1),
  (15, 0, 3), (19, 4, 4), (2, 2, 4), (13, 3, 2), (0, 2, 2), (8, 2, 0), (9, 2, 1), (14, 2, 4), (12, 1, 0), (12, 2, 2), (15, 1, 1), (1, 3, 1),
  (12, 4, 0), (2, 3, 2), (1, 4, 3), (11, 0, 0), (17, 2, 3), (14, 0, 1), (0, 0, 3), (18, 3, 0), (20, 2, 4), (18, 4, 2), (3, 4, 3), (6, 4, 4),
  (19, 0, 2), (9, 3, 3), (15, 4, 3), (5, 2, 2), (1, 2, 4), (17, 3, 1), (4, 2, 1), (0, 1, 1), (20, 3, 2), (21, 3, 3), (3, 1, 2), (18, 2, 3),
  (16, 2, 1), (19, 1, 0), (8, 1, 3), (9, 1, 4), (5, 4, 2), (19, 4, 0), (2, 2, 0), (4, 0, 2), (20, 1, 3), (6, 0, 2), (7, 0, 3), (10, 0, 4),
  (11, 4, 4), (14, 2, 0), (8, 3, 3), (22, 0, 4), (1, 1, 2), (22, 2, 2), (7, 1, 1), (13, 3, 4), (20, 2, 0), (10, 1, 2), (0, 2, 4), (3, 0, 0),
  (6, 4, 0), (7, 4, 1), (10, 3, 0), (12, 2, 4), (15, 1, 3), (16, 1, 4), (8, 0, 1), (1, 2, 0), (22, 3, 0), (1, 3, 3), (12, 4, 2), (2, 3, 4),
  (0, 3, 2), (14, 0, 3), (20, 0, 1), (21, 0, 2), (12, 3, 2), (9, 1, 0), (0, 1, 3), (20, 3, 4), (13, 2, 2), (3, 1, 4), (11, 4, 0), (17, 1, 2),
  (14, 4, 1), (18, 3, 1), (3, 4, 4), (12, 0, 0), (9, 4, 3), (2, 0, 4), (15, 0, 1), (16, 0, 2), (19, 4, 2), (2, 2, 2), (15, 4, 4), (13, 3, 0),
  (5, 2, 3), (14, 2, 2), (4, 4, 1), (16, 1, 0), (19, 1, 1), (2, 3, 0), (5, 3, 1), (1, 1, 4), (0, 0, 1), (21, 1, 1), (20, 2, 2), (10, 1, 4),
  (21, 2, 3), (3, 0, 2), (4, 0, 3), (6, 0, 3), (6, 4, 2), (7, 4, 3), (10, 3, 2), (11, 3, 3), (10, 4, 4), (8, 0, 3), (9, 0, 4), (1, 2, 2),
  (22, 3, 2), (22, 4, 4), (20, 3, 0), (21, 3, 1), (3, 1, 0), (4, 1, 1), (20, 0, 3), (21, 0, 4), (3, 4, 0), (8, 1, 1), (9, 1, 2), (8, 2, 3),
  (9, 2, 4), (12, 1, 3), (15, 4, 0), (8, 4, 1), (1, 3, 4), (13, 2, 4), (10, 0, 2), (11, 0, 3), (20, 4, 1), (21, 4, 2), (18, 2, 0), (18, 3, 3),
  (3, 2, 1), (11, 2, 1), (22, 0, 2), (16, 0, 4), (1, 1, 0), (22, 2, 0), (5, 0, 0), (17, 3, 4), (0, 1, 4), (6, 3, 0), (14, 3, 0), (16, 1, 2),
  (9, 0, 0), (19, 1, 3), (12, 0, 1), (2, 4, 4), (5, 3, 3), (16, 4, 2), (21, 0, 0), (19, 4, 3), (3, 0, 4), (7, 2, 0), (10, 2, 1), (0, 4, 0),
  (1, 3, 0), (13, 2, 0), (19, 2, 4), (4, 1, 3), (17, 1, 0), (17, 2, 2), (7, 1, 4), (0, 0, 2), (4, 3, 1), (3, 4, 2), (7, 3, 2), (6, 4, 3),
  (16, 0, 0), (19, 0, 1), (16, 3, 1), (15, 4, 2), (8, 0, 4), (8, 4, 3), (19, 3, 2), (5, 2, 1), (1, 2, 3), (17, 0, 3), (18, 1, 0), (20, 0, 4),
  (20, 4, 3), (21, 4, 4), (18, 2, 2), (11, 2, 3), (6, 2, 4), (8, 1, 2), (21, 2, 1), (4, 0, 1), (20, 1, 2), (13, 1, 3), (11, 3, 1), (10, 4, 2),
  (11, 4, 3), (6, 3, 2), (17, 4, 1), (14, 3, 2), (9, 0, 2), (12, 0, 3), (22, 4, 2), (5, 1, 0), (15, 0, 4), (16, 4, 4), (19, 2, 0), (5, 4, 0),
  (13, 3, 3), (10, 2, 3), (0, 4, 2), (6, 1, 2), (12, 1, 1), (15, 1, 2), (8, 0, 0), (22, 1, 0), (1, 3, 2), (12, 4, 1), (2, 3, 3), (5, 3, 4),
  (17, 2, 4), (20, 0, 0), (21, 4, 0), (0, 0, 4), (21, 1, 4), (6, 2, 0), (7, 2, 1), (7, 3, 4), (19, 0, 3), (19, 3, 4), (17, 3, 2), (0, 1, 2),
  (18, 2, 4), (0, 3, 0), (3, 3, 1), (8, 1, 4), (16, 4, 0), (12, 3, 0), (19, 4, 1), (15, 3, 1), (2, 2, 1), (8, 4, 4), (20, 1, 4), (7, 0, 4),
  (13, 0, 2), (6, 3, 4), (17, 4, 3), (14, 2, 1), (14, 3, 4), (20, 4, 4), (19, 2, 2), (9, 4, 1), (1, 0, 1), (2, 0, 2), (1, 1, 3), (22, 2, 3),
  (0, 0, 0), (5, 0, 3), (21, 1, 0), (7, 3, 0), (6, 4, 1), (10, 3, 1), (11, 3, 2), (6, 1, 4), (15, 1, 4), (8, 0, 2), (19, 3, 0), (9, 0, 3),
  (1, 2, 1), (22, 3, 1), (12, 4, 3), (5, 1, 1), (17, 0, 1), (20, 0, 2), (21, 0, 3), (6, 2, 2), (7, 2, 3), (11, 1, 3), (10, 2, 4), (8, 1, 0),
  (9, 1, 1), (8, 4, 0), (20, 1, 0), (22, 1, 1), (13, 1, 1), (13, 2, 3), (17, 1, 3), (20, 4, 0), (18, 3, 2), (3, 3, 3), (4, 3, 4), (15, 0, 2),
  (16, 0, 3), (15, 3, 3), (16, 3, 4), (2, 2, 3), (8, 2, 1), (5, 2, 4), (13, 0, 4), (14, 2, 3), (4, 4, 2), (6, 1, 0), (18, 1, 3), (10, 0, 0),
  (11, 0, 1), (2, 3, 1), (22, 0, 0), (21, 1, 2), (7, 4, 4), (0, 2, 0), (13, 4, 2), (10, 2, 0), (10, 3, 3), (11, 3, 4), (4, 2, 2), (12, 2, 0),
  (22, 3, 3), (15, 2, 1), (5, 1, 3), (16, 2, 2), (1, 4, 1), (2, 4, 2), (5, 4, 3), (4, 3, 0), (18, 0, 1), (9, 1, 3), (12, 1, 4), (16, 3, 0),
  (9, 3, 1), (8, 4, 2), (19, 3, 1), (22, 1, 3), (13, 0, 0), (17, 0, 2), (20, 4, 2), (21, 4, 3), (18, 3, 4), (3, 2, 2), (11, 2, 2), (7, 1, 2),
  (6, 2, 3), (2, 0, 0), (1, 1, 1), (22, 2, 1), (5, 0, 1), (13, 1, 2), (4, 4, 4), (11, 3, 0), (6, 3, 1), (0, 3, 3), (9, 0, 1), (14, 0, 4),
  (8, 3, 1), (16, 4, 3), (12, 3, 3), (21, 0, 1), (2, 1, 2), (10, 1, 0), (11, 1, 1), (13, 4, 4), (10, 2, 2), (0, 4, 1), (14, 1, 2), (4, 2, 4),
  (10, 4, 0), (11, 4, 1), (15, 2, 3), (16, 2, 4), (22, 4, 0), (1, 0, 4), (17, 1, 1), (21, 1, 3), (4, 3, 2), (18, 0, 3), (7, 3, 3), (0, 2, 1),
  (10, 3, 4), (16, 3, 2), (9, 2, 0), (19, 3, 3), (12, 2, 1), (22, 3, 4), (15, 1, 0), (17, 0, 4), (4, 4, 0), (18, 1, 1), (3, 2, 4), (11, 2, 4),
  (14, 0, 0), (20, 2, 3), (18, 4, 1), (13, 0, 1), (13, 4, 0), (13, 1, 4), (17, 3, 0), (6, 3, 3), (4, 2, 0), (17, 4, 2), (0, 1, 0), (14, 3, 3),
  (20, 3, 1), (12, 0, 4), (16, 2, 0), (19, 2, 1), (1, 0, 0), (2, 0, 1), (2, 4, 0), (2, 1, 4), (5, 4, 1), (0, 4, 3), (14, 1, 4), (6, 0, 1),
  (7, 0, 2), (6, 1, 3), (10, 0, 3), (14, 4, 4), (8, 3, 2), (17, 0, 0), (22, 0, 3), (21, 4, 1), (3, 2, 0), (11, 2, 0), (7, 1, 0), (6, 2, 1),
  (7, 2, 2), (10, 1, 1), (0, 2, 3), (9, 2, 2), (12, 2, 3), (16, 1, 3), (15, 2, 4), (13, 1, 0), (1, 4, 4), (0, 3, 1), (14, 0, 2), (3, 3, 2),
  (4, 3, 3), (18, 0, 4), (18, 4, 3), (12, 3, 1), (2, 1, 0), (15, 3, 2), (16, 3, 3), (9, 3, 4), (13, 0, 3), (14, 1, 0), (17, 4, 4)]
def risB (f : Cell → Int) : List Cell → Bool
  | a :: b :: l => decide (f a < f b) && risB f (b :: l)
  | _ => true
def inB (c : Cell) : Bool := decide (0 ≤ c.1) && decide (c.1 < 23) && decide (0 ≤ c.2.1) && decide (c.2.1 < 5) && decide (0 ≤ c.2.2) && decide (c.2.2 < 5)
theorem reg_rises : risB hashZ regS = true := by decide +kernel
theorem reg_in : regS.all inB = true := by decide +kernel
theorem reg_len : regS.length = 575 := by decide +kernel
theorem ris_pw {f : Cell → Int} : ∀ {l : List Cell}, risB f l = true → (l.map f).Pairwise (· < ·)
  | [], _ => List.Pairwise.nil
  | [a], _ => List.pairwise_singleton ..
  | a :: b :: l, h => by
    have h' : (decide (f a < f b) && risB f (b :: l)) = true := h
    rw [Bool.and_eq_true] at h'
    have ih := ris_pw h'.2
    rw [List.map_cons, List.pairwise_cons]
    refine ⟨fun x hx => ?_, ih⟩
    have h1 := of_decide_eq_true h'.1
    rw [List.map_cons] at hx ih
    rcases List.mem_cons.mp hx with rfl | hx
    · exact h1
    · have := (List.pairwise_cons.mp ih).1 x hx; omega
theorem inj_of {α β : Type} (f : α → β) : ∀ {l : List α}, (l.map f).Nodup → ∀ a ∈ l, ∀ b ∈ l, f a = f b → a = b
  | x :: l, h, a, ha, b, hb, e => by
    rw [List.map_cons, List.nodup_cons] at h
    rcases List.mem_cons.mp ha with ea | ha
    · rcases List.mem_cons.mp hb with eb | hb
      · rw [ea, eb]
      · exact absurd (List.mem_map.mpr ⟨b, hb, by rw [← e, ea]⟩) h.1
    · rcases List.mem_cons.mp hb with eb | hb
      · exact absurd (List.mem_map.mpr ⟨a, ha, by rw [e, eb]⟩) h.1
      · exact inj_of f h.2 a ha b hb e
theorem nodup_of_map {α β : Type} (f : α → β) {l : List α} (h : (l.map f).Nodup) : l.Nodup := by
  unfold List.Nodup at h ⊢
  rw [List.pairwise_map] at h
  exact h.imp fun h z => h (by rw [z])
theorem reg_mem {c : Cell} (h : c ∈ regL) : c ∈ regS := Classical.byContradiction fun z => by
  have n : (regS.map hashZ).Nodup := (ris_pw reg_rises).imp fun h => by omega
  have n2 : (c :: regS).Nodup := List.nodup_cons.mpr ⟨z, nodup_of_map hashZ n⟩
  have := n2.length_le_of_subset (l₂ := regL) fun x hx => by
    rcases List.mem_cons.mp hx with rfl | hx
    · exact h
    · have := List.all_eq_true.mp reg_in x hx
      unfold inB at this
      simp only [Bool.and_eq_true, decide_eq_true_eq] at this
      exact mem_triples.mpr ⟨mem_rng.mpr (by omega), mem_rng.mpr (by omega), mem_rng.mpr (by omega)⟩
  unfold regL at this
  rw [List.length_cons, reg_len, triples_len, rng_length, rng_length] at this
  exact absurd this (by decide)
theorem hashOn (P : Program) (w : World) : HashOn P w := fun c d hc hd h => by
  rw [hashC_eq, hashC_eq] at h
  have n : (regS.map hashZ).Nodup := (ris_pw reg_rises).imp fun h => by omega
  exact inj_of hashZ n c (reg_mem hc) d (reg_mem hd) h
end SN
end TML

section TQAL
set_option Elab.async false
set_option linter.all false
set_option maxRecDepth 100000
set_option maxHeartbeats 4000017
/-! QAL: all defs together: the law's promise from the module's facts. -/
namespace SN
open PySem PySem.Spec PyProof.Rows L2 NdefX LamX
structure Defs (F : PySem.W.Frag) (mg : Str → Option Value) : Prop where
  ftriples : FnF F mg "triples" stTriples ["across", "along", "up"]
  freplaced : FnF F mg "replaced" stReplaced ["triple", "axis", "value"]
  fneighbor : FnF F mg "neighbor" stNeighbor ["cell", "side"]
  fascending : FnF F mg "ascending" stAscending ["values"]
  fmerged_lines : FnF F mg "merged_lines" stMerged ["one", "other"]
  fparts_of_intervals : FnF F mg "parts_of_intervals" stParts ["lines", "finer"]
  fcoarse_cells : FnF F mg "coarse_cells" stCoarse ["lines", "cells", "finer"]
  fsurface_squares : FnF F mg "surface_squares" stSurface ["cells"]
  fline_beside : FnF F mg "line_beside" stBeside ["cell", "side"]
  fneeded_indexes : FnF F mg "needed_indexes" stNeeded ["cells", "marks", "axis"]
  fnew_indexes : FnF F mg "new_indexes" stNewIx ["needed"]
  fsimplified : FnF F mg "simplified" stSimplified ["lines", "cells", "marks"]
  flow_point : FnF F mg "low_point" stLow ["lines", "cell"]
  fhigh_point : FnF F mg "high_point" stHigh ["lines", "cell"]
  fsizes : FnF F mg "sizes" stSizes ["lines", "cell"]
  fis_integer : FnF F mg "is_integer" stIsInt ["value"]
  fis_point : FnF F mg "is_point" stIsPoint ["value"]
  fis_box : FnF F mg "is_box" stIsBox ["value"]
  fis_name : FnF F mg "is_name" stIsName ["value"]
  fneed_name : FnF F mg "need_name" stNeedName ["value"]
  fneed_box : FnF F mg "need_box" stNeedBox ["value"]
  fneed_few_lines : FnF F mg "need_few_lines" stFew ["lines"]
  fgrid_of_boxes : FnF F mg "grid_of_boxes" stGrid ["boxes"]
  findex_of : FnF F mg "index_of" stIndexOf ["lines", "coordinate"]
  fproduct_of : FnF F mg "product_of" stProduct ["triple"]
  fadded : FnF F mg "added" stAdded ["one", "other"]
  ftaken : FnF F mg "taken" stTaken ["one", "other"]
  fcells_after : FnF F mg "cells_after" stAfter ["mine", "their", "word"]
  fnothing : FnF F mg "nothing" stNothing []
  fblock : FnF F mg "block" stBlock ["box", "name"]
  f_law_pen : FnF F mg "_law_pen" stPen ["_law_script"]
  f_law_draw : FnF F mg "_law_draw" stDraw ["_law_pen_here", "_law_many"]
  f_law_pick : FnF F mg "_law_pick" stPick ["_law_pen_here", "_law_options"]
  f_law_box : FnF F mg "_law_box" stBox ["_law_pen_here"]
  f_law_cells : FnF F mg "_law_cells" stCells ["_law_box_here"]
  f_law_built : FnF F mg "_law_built" stBuilt ["_law_pen_here"]
  f_law_is_solid : FnF F mg "_law_is_solid" stIsSol ["_law_found", "_law_cells_here"]
  f_law_refused : FnF F mg "_law_refused" stRef ["_law_call"]
structure Mod (P : Program) (w : World) (F : PySem.W.Frag) (mg : Str → Option Value) (CS CG CM CT : Addr) : Prop where
  tx : TX w F mg
  tb : TB mg
  tn : TN F mg
  tl : TL mg
  cs : CsOk P w F mg CS CG CM CT
  on : MtF F CM "on_lines" "Marked.on_lines" stOn ["self", "lines"]
  mt : MtsOk F CM
  bo : MtF F CG "both" "Solid.both" stBoth ["self", "other"]
  bx : MtF F CG "boxes" "Solid.boxes" stBoxes ["self"]
  sb : ∃ f, SubF F CG f
  or_ : ∃ f, OrF F CG f
  bl : ∃ f, BoF F CG f
  eq : ∃ f, EqF F CG f ∧ FnAt F f "__eq__" "Solid.__eq__" stEq ["self", "other"]
  hs : ∃ f, HasF F CG f
  is_ : IsF F CG CS
  vo : VolF F CG
  rf : RfF F mg CT
  ds : Defs F mg
theorem law_ok {P : Program} {w : World} {F : PySem.W.Frag} {mg : Str → Option Value} {base : Heap} {CS CG CM CT c Pt f : Addr} {fd : FuncData} {T : Tbl} (M : Mod P w F mg CS CG CM CT) (Gc : FunC F mg "_law_comb_right" stCmb ["_law_pen_here"] c) (TBc : TabB base mg c Pt)
    (hT : T = [(Pt, (envOfC "_law_comb_right" (defScope stCmb) 0 0 .none).qual ++ "<lambda>")]) (G : Fun F "law" "law" stLaw f fd) : FnOk P w F mg base (L2.CX P w) 13 f fd ["_law_script"] (spLaw F T) := by
  have hh := hashOn P w
  have T := M.tx
  have B := M.tb
  have D := M.ds
  have Tri := df_triples (P := P) (w := w) (base := base) D.ftriples
  have Rep := df_replaced (P := P) (w := w) (base := base) D.freplaced
  have Nei := df_neighbor (P := P) (base := base) T Rep D.fneighbor
  have Asc := df_ascending (P := P) (base := base) T D.fascending
  have Mer := df_merged (P := P) (base := base) T Asc D.fmerged_lines
  have Par := df_parts (P := P) (base := base) T D.fparts_of_intervals
  have Coa := df_coarse (r := rBl) (P := P) (base := base) T Tri Par D.fcoarse_cells
  have Su1 := df_surface (r := rCell) (P := P) (base := base) T Nei D.fsurface_squares
  have Su2 := df_surface (r := rAny) (P := P) (base := base) T Nei D.fsurface_squares
  have Su3 := df_surface (r := rBl) (P := P) (base := base) T Nei D.fsurface_squares
  have Bes := df_beside (P := P) (base := base) T D.fline_beside
  have Nee := df_needed (P := P) (base := base) T Nei Bes D.fneeded_indexes
  have Nix := df_newIx (P := P) (base := base) T D.fnew_indexes
  have Sim := df_simplified (P := P) (base := base) T Nee Nix D.fsimplified
  have Low := df_low (P := P) (base := base) T D.flow_point
  have Hig := df_high (P := P) (base := base) T D.fhigh_point
  have Siz := df_sizes (P := P) (base := base) T Low Hig D.fsizes
  have IsI := df_isInt (P := P) (w := w) (base := base) B D.fis_integer
  have IsP := df_isPoint (P := P) (base := base) T B IsI D.fis_point
  have IsB := df_isBox (P := P) (base := base) T B IsP D.fis_box
  have IsN := df_isName (P := P) (base := base) T B D.fis_name
  have NeN := df_needName (P := P) (w := w) (base := base) IsN D.fneed_name
  have NeB := df_needBox (P := P) (w := w) (base := base) IsB D.fneed_box
  have Few := df_few (P := P) (base := base) T B M.cs.tm D.fneed_few_lines
  have Gri := df_grid (P := P) (base := base) T Asc Tri D.fgrid_of_boxes
  have Ixo := df_indexOf (P := P) (base := base) T D.findex_of
  have Pro := df_product (P := P) (w := w) (base := base) D.fproduct_of
  have Aft := df_after (P := P) (w := w) (base := base) (r1 := rCell) (r2 := rCell) D.fcells_after
  have Ds : DsOk P w F mg base CT := ⟨IsB, Gri, Sim, Few⟩
  have Do : DoOk P w F mg base CM := ⟨Mer, Coa, Su1, Su2, Nei, Aft, M.on⟩
  have Db : DbO P w F mg base CG := ⟨Mer, Coa, M.bo⟩
  have Dk : DbOk P w F mg base := ⟨NeB, NeN, Su3⟩
  have Not := df_nothing T M.tn M.cs Ds D.fnothing
  have Blo := df_block T M.cs Ds Dk D.fblock
  have Add := df_added T M.cs Ds Db M.mt.ts M.sb D.fadded
  have Tak := df_taken T M.cs Ds Db M.mt.ts M.sb D.ftaken
  have Dra := df_draw (P := P) (base := base) T B M.tl D.f_law_draw
  have Pic := df_pick (P := P) (base := base) T Dra D.f_law_pick
  have Box_ := df_box (P := P) (base := base) T Dra D.f_law_box
  have Pen := df_pen (P := P) (base := base) T D.f_law_pen
  have Cel := df_cells (P := P) (base := base) T D.f_law_cells
  have Bui := df_built T B M.tl M.cs Ds Do M.mt (bstep hh) Not Blo Cel Box_ Dra D.f_law_built
  have Iss := df_isSol (P := P) (base := base) T B ⟨M.tl.repr⟩ M.cs.og M.cs.mS M.is_ M.vo M.hs IsP Ixo Siz Pro D.f_law_is_solid
  have Cmb := df_comb T B M.cs Ds Do M.mt M.bl M.rf D.f_law_refused Not Blo Add Tak Dra Pic TBc hT (fun s hs => comb_of hh hs) Gc
  exact ok_law T B M.cs Ds Db M.mt M.sb M.or_ M.bl M.eq M.cs.mS M.is_ M.bx Low Hig Pen Bui Add Tak Iss Cmb (fun A D B E i j => bout_of hh i j) G
end SN
end TQAL

section TQHK
set_option Elab.async false
set_option linter.all false
set_option maxRecDepth 100000
set_option maxHeartbeats 4000017
/-! QHK: the module's facts by a Hook (printed by gen_hk.py). -/
namespace SN
open PySem PySem.Spec PyProof.Rows L2 NdefX LamX
def dT (x : Str) (i : Nat) : He5.DefA := ⟨fun K => He.ga K x, x, x, defArgs (top i), defBody (top i), defScope (top i), [], []⟩
def dM (c m qual : Str) (i j : Nat) : He5.DefA := ⟨fun K => He.ma K (He.ga K c) m, m, qual, defArgs (mth i j), defBody (mth i j), defScope (mth i j), [], []⟩
def dVol : He5.DefA := ⟨fun K => He5.wf K (He.ga K "OnGrid") "property" "volume", "volume", "Solid.volume", defArgs (mth 49 8), defBody (mth 49 8), defScope (mth 49 8), [], []⟩
def fnK0 : List He5.DefA := [dT "triples" 18, dT "replaced" 19, dT "neighbor" 20, dT "ascending" 21, dT "merged_lines" 22, dT "parts_of_intervals" 23, dT "coarse_cells" 24, dT "surface_squares" 25, dT "line_beside" 26, dT "needed_indexes" 27, dT "new_indexes" 28, dT "simplified" 29, dT "low_point" 30, dT "high_point" 31, dT "sizes" 32, dT "is_integer" 35, dT "is_point" 36, dT "is_box" 37, dT "is_name" 38, dT "need_name" 41]
def fnK1 : List He5.DefA := [dT "need_box" 42, dT "need_few_lines" 44, dT "grid_of_boxes" 46, dT "index_of" 47, dT "product_of" 48, dT "added" 52, dT "taken" 53, dT "cells_after" 55, dT "nothing" 57, dT "block" 58, dT "_law_pen" 60, dT "_law_draw" 61, dT "_law_pick" 62, dT "_law_box" 63, dT "_law_cells" 64, dT "_law_built" 65, dT "_law_is_solid" 66, dT "_law_refused" 67, dT "_law_comb_right" 68, dT "law" 69]
def fnK2 : List He5.DefA := [dM "OnGrid" "__eq__" "Solid.__eq__" 49 1, dM "OnGrid" "__bool__" "Solid.__bool__" 49 2, dM "OnGrid" "__contains__" "Solid.__contains__" 49 3, dM "OnGrid" "both" "Solid.both" 49 4, dM "OnGrid" "__or__" "Solid.__or__" 49 5, dM "OnGrid" "__sub__" "Solid.__sub__" 49 6, dM "OnGrid" "boxes" "Solid.boxes" 49 12, dM "Solid" "__init__" "Solid.__init__" 49 0, dM "Marked" "__init__" "Marked.__init__" 56 0, dM "Marked" "to_solid" "Marked.to_solid" 56 2, dM "Marked" "on_lines" "Marked.on_lines" 56 7, dM "Marked" "operated" "Marked.operated" 56 8, dM "Marked" "joined" "Marked.joined" 56 9, dM "Marked" "cut" "Marked.cut" 56 10, dM "Marked" "met" "Marked.met" 56 11, dM "TooMany" "__init__" "TooMany.__init__" 7 0, dVol]
def fnK : List He5.DefA := fnK0 ++ fnK1 ++ fnK2
def faK0 : List He.Fa := [.glo "AXIS_OF", .glo "STEP_OF", .glo "OPPOSITE", .glo "SIDES", .glo "NO_LINES", .glo "Solid", .glo "OnGrid", .glo "Marked", .glo "TooMany", .glo "triples", .glo "replaced", .glo "neighbor", .glo "ascending", .glo "merged_lines", .glo "parts_of_intervals", .glo "coarse_cells", .glo "surface_squares", .glo "line_beside", .glo "needed_indexes", .glo "new_indexes"]
def faK1 : List He.Fa := [.glo "simplified", .glo "low_point", .glo "high_point", .glo "sizes", .glo "is_integer", .glo "is_point", .glo "is_box", .glo "is_name", .glo "need_name", .glo "need_box", .glo "need_few_lines", .glo "grid_of_boxes", .glo "index_of", .glo "product_of", .glo "added", .glo "taken", .glo "cells_after", .glo "nothing", .glo "block", .glo "_law_pen"]
def faK2 : List He.Fa := [.glo "_law_draw", .glo "_law_pick", .glo "_law_box", .glo "_law_cells", .glo "_law_built", .glo "_law_is_solid", .glo "_law_refused", .glo "_law_comb_right", .glo "law", .free "tuple", .free "sorted", .free "zip", .free "range", .free "list", .free "enumerate", .free "len", .free "any", .free "all", .free "sum", .free "isinstance"]
def faK3 : List He.Fa := [.free "int", .free "bool", .free "str", .free "abs", .free "repr", .free "dict", .free "super", .free "OverflowError", .int "LIMIT" (10 ^ 30), .int "NAME_LENGTH" 8, .int "LINES" 20, .str "LETTERS" "abcdefghijklmnopqrstuvwxyz", .cls "Solid", .mkr "Solid", .noat "Solid" "grid_lines", .noat "Solid" "grid_cells", .cls "OnGrid", .mkr "OnGrid", .noat "OnGrid" "grid_lines", .noat "OnGrid" "grid_cells"]
def faK4 : List He.Fa := [.cls "Marked", .mkr "Marked", .noat "Marked" "grid_lines", .noat "Marked" "grid_cells", .noat "Marked" "grid_marks", .meth "OnGrid" "__eq__", .meth "OnGrid" "__bool__", .meth "OnGrid" "__contains__", .meth "OnGrid" "both", .meth "OnGrid" "__or__", .meth "OnGrid" "__sub__", .meth "OnGrid" "boxes", .meth "Marked" "to_solid", .meth "Marked" "on_lines", .meth "Marked" "operated", .meth "Marked" "joined", .meth "Marked" "cut", .meth "Marked" "met"]
def faK : List He.Fa := faK0 ++ faK1 ++ faK2 ++ faK3 ++ faK4
abbrev sideKeys : List Str := ["-x", "+x", "-y", "+y", "-z", "+z"]
def tsK : List He.Tab := [(fun K => He.ga K "AXIS_OF", sideKeys), (fun K => He.ga K "STEP_OF", sideKeys), (fun K => He.ga K "OPPOSITE", sideKeys)]
def tfK : List He.Defn := [("_law_comb_right", none)]
/-! ### further facts -/
def emptyB (K : PySem.W.Frag) (v : Value) : Bool := match v with
  | .ref a => (match K.lookup a with
    | some ⟨.type c, _, .seq its _, _⟩ => decide (c = "tuple") && its.toList.isEmpty
    | _ => false)
  | _ => false
def noB (K : PySem.W.Frag) : Bool := match K.lookup (He.ga K "NO_LINES") with
  | some ⟨.type c, _, .seq its _, _⟩ => decide (c = "tuple") && (decide (its.size = 3) && its.toList.all (emptyB K))
  | _ => false
def fileB (K : PySem.W.Frag) (cd : Value) : Bool := match cd with
  | .ref c => (match K.lookup c with
    | some ⟨_, _, .fields vs, _⟩ => (match (vs[2]? : Option Value) with
      | some (.str file _) => (PySem.Challenge.pw_solidnames_k81_added_and_taken_cells.main.file : Str) == file
      | _ => false)
    | _ => false)
  | _ => false
def cellB (K : PySem.W.Frag) (cl : List (Str × Addr)) (D : Addr) : Bool := match cl with
  | [(_, cc)] => (match K.lookup cc with
    | some ⟨_, _, .cell (some (.ref E)), _⟩ => decide (E = D)
    | _ => false)
  | _ => false
abbrev OgW : Type := Option (Str × Str × Arguments × FuncBody × Scope × Addr × List Str × Value × Value × Option Addr × Addr)
def ogA (K : PySem.W.Frag) : Addr := He.ma K (He.ga K "OnGrid") "__init__"
def ogW (K : PySem.W.Frag) : OgW := match K.lookup (ogA K) with
  | some ⟨_, _, .func fd, _⟩ => some (fd.name, fd.qualname, fd.params, fd.body, fd.scope, fd.globals, fd.closure.map (·.1), fd.defaults, fd.kwdefaults, fd.annotations, fd.builtins)
  | _ => none
def ogV : OgW := some ("__init__", "OnGrid.__init__", defArgs stOG, .stmts (defBody stOG), defScope stOG, mainGlobals, ["__class__"], .none, .none, none, builtinsNs)
def ogB (K : PySem.W.Frag) : Bool := match K.lookup (ogA K) with
  | some ⟨_, _, .func fd, _⟩ => PySem.W.codeIn K fd.code "OnGrid.__init__" && (fileB K fd.code && cellB K fd.closure (He.ga K "OnGrid"))
  | _ => false
section
variable (K : PySem.W.Frag)
abbrev cS : Addr := He.ga K "Solid"
abbrev cG : Addr := He.ga K "OnGrid"
abbrev cM : Addr := He.ga K "Marked"
abbrev cTM : Addr := He.ga K "TooMany"
abbrev vP : Addr := He.ma K (cG K) "volume"
def exL : List Bool := [
  He.valsB K (He.ga K "AXIS_OF") [("-x", .int 0), ("+x", .int 0), ("-y", .int 1), ("+y", .int 1), ("-z", .int 2), ("+z", .int 2)],
  He.valsB K (He.ga K "STEP_OF") [("-x", .int (-1)), ("+x", .int 1), ("-y", .int (-1)), ("+y", .int 1), ("-z", .int (-1)), ("+z", .int 1)],
  He.valsB K (He.ga K "OPPOSITE") [("-x", .str "+x"), ("+x", .str "-x"), ("-y", .str "+y"), ("+y", .str "-y"), ("-z", .str "+z"), ("+z", .str "-z")],
  He.tupB K "SIDES" [.str "-x", .str "+x", .str "-y", .str "+y", .str "-z", .str "+z"],
  noB K,
  PySem.W.excInitIn K (cTM K) oeB "OverflowError.__new__",
  PySem.W.excOver K (cTM K) oeB,
  decide (PySem.W.takerIn K (cTM K) "limit" = some none),
  PySem.W.hasDictIn K (cTM K),
  decide (PySem.W.findIn K (.ref (cTM K)) "__setattr__" = some (some (.builtin "object.__setattr__"))),
  decide (PySem.W.subIn K (.ref (cTM K)) (.type "BaseException") = some true),
  decide (PySem.W.typeIn K (.ref (cTM K)) = some (.type "type")),
  PySem.W.keepIn K (.ref (cTM K)),
  decide (PySem.W.findIn K (.ref (cTM K)) "__init__" = some (some (.ref (He.ma K (cTM K) "__init__")))),
  decide (PySem.W.typeIn K (.ref (He.ma K (cTM K) "__init__")) = some (.type "function")),
  decide (PySem.W.kitOne K (.ref (cG K)) (.ref (cS K)) = some true),
  decide (PySem.W.findIn K (.ref (cG K)) "__class__" = some (some (.builtin "object.__class__"))),
  decide (PySem.W.specialIn K (.builtin "object.__class__") "__get__" = some (some (.builtin "getset_descriptor.__get__"))),
  decide (PySem.W.takesIn K (.builtin "object.__class__") = some true),
  decide (PySem.W.mroIn K (cG K) (.type "object") = some true),
  decide (PySem.W.findIn K (.ref (cG K)) "__ne__" = some (some (.builtin "object.__ne__"))),
  decide (PySem.W.subIn K (.ref (cG K)) (.type "object") = some true),
  PySem.W.selfFirst K (cG K),
  decide (PySem.W.findIn K (.ref (cG K)) "volume" = some (some (.ref (vP K)))),
  decide (PySem.W.specialIn K (.ref (vP K)) "__get__" = some (some (.builtin "property.__get__"))),
  decide (PySem.W.takesIn K (.ref (vP K)) = some true),
  (match PySem.W.recIn K (vP K) "property" with
    | some (.ref _ :: _) => true
    | _ => false),
  xfB K (cTM K),
  decide (PySem.W.findIn K (.ref (cTM K)) "limit" = some none),
  decide (PySem.W.kitCls K (.ref (cTM K)) (.type "OverflowError") = some true),
  decide (PySem.W.exmOne K (.ref (cTM K)) (.ref (cTM K)) = some true),
  (PySem.W.clsIn K (cG K)).isSome,
  decide (PySem.W.mroIn K (cG K) (.ref (cG K)) = some true),
  decide (PySem.W.ks_superIn K (cG K) (cG K) "__init__" = some (some (.ref (He.ma K (cS K) "__init__")))),
  decide (PySem.W.typeIn K (.ref (He.ma K (cS K) "__init__")) = some (.type "function")),
  PySem.W.fnIn K (He.ma K (cS K) "__init__"),
  decide (PySem.W.nsIn K cStatics "thirdparty.any" = some none),
  ogB K]
end
/-! ### the Hook -/
abbrev AlK : Type := He.AlD × List (Option (List (Option (Str × Int)))) × OgW
section
variable (fa : List He.Fa) (fn : List He5.DefA) (ts : List He.Tab) (tf : List He.Defn) (ex : PySem.W.Frag → List Bool) (og : PySem.W.Frag → OgW) (ogv : OgW) (n : List Addr)
def obsP (g : Addr → Option Obj) (K : PySem.W.Frag) : AlK := ((((fa.all fun f => f.ok K) && fn.all fun d => d.ok K) && ((ex K).all id && He.tabsB g tf K), fn.map fun d => He5.fnA K (d.at_ K)), ts.map (fun t => He.dicW K (t.1 K)), og K)
def valP (w : World) : AlK := ((true, fn.map He5.DefA.val), ts.map (fun t => some (He.keysIn w.params t.2)), ogv)
def frP (g : Addr → Option Obj) : PySem.W.Frag := He.frT g n
def obsPG (g : Addr → Option Obj) : AlK := obsP fa fn ts tf ex og g (frP n g)
structure SaysP (w : World) (h : Heap) (K : PySem.W.Frag) : Prop where
  fa : ∀ f ∈ fa, f.ok K = true
  fn : ∀ d ∈ fn, ∃ fd, FunD K d.name d.qual d.params d.body d.scope (d.dvs K) (d.kws K) (d.at_ K) fd
  ex : ∀ b ∈ ex K, b = true
  ts : ∀ t ∈ ts, ∃ es n, KDict K w (t.1 K) es n
  og : og K = ogv
  hd : ∀ p ∈ tf, PySem.W.codeHdIn K (He.cT K p).1 (He.cT K p).2 = true
  out : ∀ p ∈ tf, K.lookup (He.cT K p).2 = none
  empty : ∀ p ∈ tf, h.get? (He.cT K p).2 = some { cls := .none, data := .fields #[] }
variable {fa fn ts tf ex og ogv n}
theorem saysP_of {w : World} {h : Heap} (e : obsPG fa fn ts tf ex og n h.get? = valP fn ts ogv w) : SaysP fa fn ts tf ex og ogv w h (frP n h.get?) := by
  have e1 : (((fa.all fun f => f.ok (frP n h.get?)) && fn.all fun d => d.ok (frP n h.get?)) && ((ex (frP n h.get?)).all id && He.tabsB h.get? tf (frP n h.get?))) = true := congrArg (fun z : AlK => z.1.1) e
  have e2 : fn.map (fun d => He5.fnA (frP n h.get?) (d.at_ (frP n h.get?))) = fn.map He5.DefA.val := congrArg (fun z : AlK => z.1.2) e
  have e3 : ts.map (fun t => He.dicW (frP n h.get?) (t.1 (frP n h.get?))) = ts.map fun t => some (He.keysIn w.params t.2) := congrArg (fun z : AlK => z.2.1) e
  have e4 : og (frP n h.get?) = ogv := congrArg (fun z : AlK => z.2.2) e
  obtain ⟨a1, a2⟩ := He.ba e1
  obtain ⟨a3, a4⟩ := He.ba a1
  obtain ⟨a5, a6⟩ := He.ba a2
  have key : ∀ p ∈ tf, PySem.W.codeHdIn (frP n h.get?) (He.cT (frP n h.get?) p).1 (He.cT (frP n h.get?) p).2 = true ∧ ∃ o, h.get? (He.cT (frP n h.get?) p).2 = some o ∧ He.emptyTab o = true := fun p hp => by
    obtain ⟨h3, h4⟩ := He.ba (List.all_eq_true.mp a6 p hp)
    refine ⟨h3, ?_⟩
    cases q : h.get? (He.cT (frP n h.get?) p).2 with
    | none => rw [q] at h4; cases h4
    | some o => rw [q] at h4; exact ⟨o, rfl, h4⟩
  refine ⟨fun f hf => List.all_eq_true.mp a3 f hf, fun d hd => ?_, fun b hb => List.all_eq_true.mp a5 b hb, fun t ht => ?_, e4, fun p hp => (key p hp).1, fun p hp => ?_, fun p hp => ?_⟩
  · obtain ⟨i, hi, e5⟩ := List.mem_iff_getElem.mp hd
    have e6 := congrArg (fun l => l[i]?) e2
    simp only [List.getElem?_map, List.getElem?_eq_getElem hi, e5, Option.map_some] at e6
    exact He5.DefA.funD (Option.some.inj e6) (List.all_eq_true.mp a4 d hd)
  · obtain ⟨i, hi, e5⟩ := List.mem_iff_getElem.mp ht
    have e6 := congrArg (fun l => l[i]?) e3
    simp only [List.getElem?_map, List.getElem?_eq_getElem hi, e5, Option.map_some] at e6
    exact He.dicW_ok (Option.some.inj e6)
  · obtain ⟨_, o, q, z⟩ := key p hp
    exact He.frT_none q z
  · obtain ⟨_, o, q, z⟩ := key p hp
    rw [q, He.emptyTab_eq z]
variable (fa fn ts tf ex og ogv n)
def hkP : PySem.W.Hook where
  α := AlK
  obs := fun s => obsPG fa fn ts tf ex og n s.heap.get?
  val := valP fn ts ogv
  says := fun w h => ∃ K : PySem.W.Frag, K.In h ∧ SaysP fa fn ts tf ex og ogv w h K
  of := fun _ _ e => ⟨_, He.frT_in, saysP_of e⟩
  keeps := fun _ _ _ ⟨K, hK, c⟩ k => ⟨K, PySem.W.Frag.In.keeps hK k, ⟨c.fa, c.fn, c.ex, c.ts, c.og, c.hd, c.out, fun p hp => k _ _ (c.empty p hp)⟩⟩
theorem obsPG_eq {g : Addr → Option Obj} {s : Shared} (h : ∀ a, g a = s.heap.get? a) : obsPG fa fn ts tf ex og n g = (hkP fa fn ts tf ex og ogv n).obs s := by
  have e : g = s.heap.get? := funext h
  rw [e] <;> rfl
end
/-- where the facts stand: the addresses that the top leaves (found by one run) -/
def asK0 : List Addr := [3, 6, 4, 21, 38, 58, 78, 98, 118, 138, 142, 143, 144, 145, 146, 150, 155, 162, 169, 174, 179, 184, 189, 194, 201, 206, 213, 218, 223, 228, 233, 240, 245, 250, 255, 262, 269, 276, 283, 288]
def asK1 : List Addr := [293, 298, 303, 310, 437, 458, 467, 474, 479, 594, 605, 610, 617, 624, 631, 638, 645, 650, 657, 664, 671, 676, 0, 20, 37, 57, 77, 97, 117, 137, 147, 148, 149, 154, 161, 168, 173, 178, 183, 188]
def asK2 : List Addr := [193, 200, 205, 212, 217, 222, 227, 232, 239, 244, 249, 254, 261, 268, 275, 282, 287, 292, 297, 302, 309, 436, 457, 466, 473, 478, 593, 604, 609, 616, 623, 630, 637, 644, 649, 656, 663, 670, 675, 15]
def asK3 : List Addr := [16, 17, 18, 19, 35, 36, 39, 55, 56, 59, 75, 76, 79, 95, 96, 99, 115, 116, 119, 135, 136, 139, 151, 152, 153, 156, 157, 158, 159, 160, 163, 164, 165, 166, 167, 170, 171, 172, 175, 176]
def asK4 : List Addr := [177, 180, 181, 182, 185, 186, 187, 190, 191, 192, 195, 196, 197, 198, 199, 202, 203, 204, 207, 208, 209, 210, 211, 214, 215, 216, 219, 220, 221, 224, 225, 226, 229, 230, 231, 234, 235, 236, 237, 238]
def asK5 : List Addr := [241, 242, 243, 246, 247, 248, 251, 252, 253, 256, 257, 258, 259, 260, 263, 264, 265, 266, 267, 270, 271, 272, 273, 274, 277, 278, 279, 280, 281, 284, 285, 286, 289, 290, 291, 294, 295, 296, 299, 300]
def asK6 : List Addr := [301, 304, 305, 306, 307, 308, 324, 331, 338, 343, 350, 357, 362, 367, 373, 381, 389, 396, 401, 408, 415, 420, 427, 434, 435, 438, 439, 455, 456, 461, 462, 463, 464, 465, 468, 469, 470, 471, 472, 475]
def asK7 : List Addr := [476, 477, 491, 498, 505, 511, 518, 525, 532, 537, 544, 551, 558, 565, 570, 577, 584, 591, 592, 595, 596, 599, 600, 601, 602, 603, 606, 607, 608, 611, 612, 613, 614, 615, 618, 619, 620, 621, 622, 625]
def asK8 : List Addr := [626, 627, 628, 629, 632, 633, 634, 635, 636, 639, 640, 641, 642, 643, 646, 647, 648, 651, 652, 653, 654, 655, 658, 659, 660, 661, 662, 665, 666, 667, 668, 669, 672, 673, 674, 34, 54, 74, 94, 114]
def asK9 : List Addr := [134, 323, 330, 337, 342, 349, 356, 361, 366, 372, 380, 388, 395, 400, 407, 414, 419, 426, 433, 454, 445, 490, 497, 504, 510, 517, 524, 531, 536, 543, 550, 557, 564, 569, 576, 583, 590, 29, 30, 31]
def asK10 : List Addr := [32, 33, 49, 50, 51, 52, 53, 69, 70, 71, 72, 73, 89, 90, 91, 92, 93, 109, 110, 111, 112, 113, 129, 130, 131, 132, 133, 318, 319, 320, 321, 322, 325, 326, 327, 328, 329, 332, 333, 334]
def asK11 : List Addr := [335, 336, 339, 340, 341, 344, 345, 346, 347, 348, 351, 352, 353, 354, 355, 358, 359, 360, 363, 364, 365, 371, 379, 387, 390, 391, 392, 393, 394, 397, 398, 399, 402, 403, 404, 405, 406, 409, 410, 411]
def asK12 : List Addr := [412, 413, 416, 417, 418, 421, 422, 423, 424, 425, 428, 429, 430, 431, 432, 451, 452, 453, 487, 488, 489, 492, 493, 494, 495, 496, 499, 500, 501, 502, 503, 509, 512, 513, 514, 515, 516, 519, 520, 521]
def asK13 : List Addr := [522, 523, 526, 527, 528, 529, 530, 533, 534, 535, 538, 539, 540, 541, 542, 545, 546, 547, 548, 549, 552, 553, 554, 555, 556, 559, 560, 561, 562, 563, 566, 567, 568, 571, 572, 573, 574, 575, 578, 579]
def asK14 : List Addr := [580, 581, 582, 585, 586, 587, 588, 589, 368, 369, 370, 374, 375, 376, 377, 378, 382, 383, 384, 385, 386, 506, 507, 508, 2]
def asK : List Addr := asK0 ++ (asK1 ++ (asK2 ++ (asK3 ++ (asK4 ++ (asK5 ++ (asK6 ++ (asK7 ++ (asK8 ++ (asK9 ++ (asK10 ++ (asK11 ++ (asK12 ++ (asK13 ++ (asK14))))))))))))))
abbrev hkK : PySem.W.Hook := hkP faK fnK tsK tfK exL ogW ogV asK
abbrev SaysK := SaysP faK fnK tsK tfK exL ogW ogV
end SN
end TQHK

section TQFC
set_option Elab.async false
set_option linter.all false
set_option maxRecDepth 100000
set_option maxHeartbeats 1000017
/-! QFC: the bundle Mod from what the Hook says (printed by gen_fc.py). -/
namespace SN
open PySem PySem.Spec PyProof.Rows L2 NdefX LamX
theorem fam (i : Nat) {f : He.Fa} (h : faK[i]? = some f) : f ∈ faK := List.mem_of_getElem? h
theorem fnm (i : Nat) {d : He5.DefA} (h : fnK[i]? = some d) : d ∈ fnK := List.mem_of_getElem? h
abbrev BindOk (x qual : Str) (st : Stmt) (ps : List Str) : Prop := ∀ (kV doc pm : Value) (an : Option Addr) (cdv ct : Value) (us : List Value), us.length = ps.length → bindArgs (PySem.W.fnOf x qual (defArgs st) (defBody st) (defScope st) .none kV doc pm an cdv ct) ⟨us, []⟩ = pure (ps.zip us)
section
variable {w : World} {h : Heap} {K : PySem.W.Frag} {mg : Str → Option Value}
theorem exm (c : SaysK w h K) (i : Nat) {b : Bool} (e : (exL K)[i]? = some b) : b = true := c.ex b (List.mem_of_getElem? e)
theorem fnF_of (c : SaysK w h K) {x : Str} {i : Nat} {ps : List Str} (d : dT x i ∈ fnK) (g : mg x = some (.ref (He.ga K x))) (hb : BindOk x x (top i) ps) : FnF K mg x (top i) ps := by
  obtain ⟨fd, F⟩ := c.fn _ d
  have F' : Fun K x x (top i) (He.ga K x) fd := He5.fun_of F
  exact ⟨_, fd, F', g, F'.binds hb⟩
theorem fnAt_of (c : SaysK w h K) {cl m qual : Str} {i j : Nat} {ps : List Str} (d : dM cl m qual i j ∈ fnK) (hb : BindOk m qual (mth i j) ps) : FnAt K (He.ma K (He.ga K cl) m) m qual (mth i j) ps := by
  obtain ⟨fd, F⟩ := c.fn _ d
  have F' : Fun K m qual (mth i j) (He.ma K (He.ga K cl) m) fd := He5.fun_of F
  exact ⟨fd, F', F'.binds hb⟩
theorem fun_at (c : SaysK w h K) {cl m qual : Str} {i j : Nat} (d : dM cl m qual i j ∈ fnK) : ∃ fd, Fun K m qual (mth i j) (He.ma K (He.ga K cl) m) fd := by
  obtain ⟨fd, F⟩ := c.fn _ d
  exact ⟨fd, He5.fun_of F⟩
theorem ks_of {p : Addr} {kvs : List (Str × He.Dv)} {f : Side → V} (hd : ∃ es n, KDict K w p es n) (hv : He.valsB K p kvs = true) (hk : ∀ s : Side, ∃ v : He.Dv, (sname s, v) ∈ kvs ∧ v.v K = f s) : KS K w p f := fun s => by
  obtain ⟨es, n, D⟩ := hd
  obtain ⟨v, m, e⟩ := hk s
  obtain ⟨u, h1, h2⟩ := He.valsB_ok hv m
  exact ⟨es, n, u, D.at_, D.lit, h1, e ▸ h2⟩
theorem tx_of (X : K.In h) (G : h.Ns mainGlobals mg) (c : SaysK w h K) : TX w K mg where
  axisOf := ⟨_, (He.glo_ok X G (x := "AXIS_OF") (c.fa _ (fam 0 rfl))), ks_of (c.ts _ (List.mem_of_getElem? (i := 0) rfl)) (exm c 0 rfl) (fun s => match s with | 0 => ⟨_, List.mem_of_getElem? (i := 0) rfl, rfl⟩ | 1 => ⟨_, List.mem_of_getElem? (i := 1) rfl, rfl⟩ | 2 => ⟨_, List.mem_of_getElem? (i := 2) rfl, rfl⟩ | 3 => ⟨_, List.mem_of_getElem? (i := 3) rfl, rfl⟩ | 4 => ⟨_, List.mem_of_getElem? (i := 4) rfl, rfl⟩ | 5 => ⟨_, List.mem_of_getElem? (i := 5) rfl, rfl⟩)⟩
  stepOf := ⟨_, (He.glo_ok X G (x := "STEP_OF") (c.fa _ (fam 1 rfl))), ks_of (c.ts _ (List.mem_of_getElem? (i := 1) rfl)) (exm c 1 rfl) (fun s => match s with | 0 => ⟨_, List.mem_of_getElem? (i := 0) rfl, rfl⟩ | 1 => ⟨_, List.mem_of_getElem? (i := 1) rfl, rfl⟩ | 2 => ⟨_, List.mem_of_getElem? (i := 2) rfl, rfl⟩ | 3 => ⟨_, List.mem_of_getElem? (i := 3) rfl, rfl⟩ | 4 => ⟨_, List.mem_of_getElem? (i := 4) rfl, rfl⟩ | 5 => ⟨_, List.mem_of_getElem? (i := 5) rfl, rfl⟩)⟩
  oppOf := ⟨_, (He.glo_ok X G (x := "OPPOSITE") (c.fa _ (fam 2 rfl))), ks_of (c.ts _ (List.mem_of_getElem? (i := 2) rfl)) (exm c 2 rfl) (fun s => match s with | 0 => ⟨_, List.mem_of_getElem? (i := 0) rfl, rfl⟩ | 1 => ⟨_, List.mem_of_getElem? (i := 1) rfl, rfl⟩ | 2 => ⟨_, List.mem_of_getElem? (i := 2) rfl, rfl⟩ | 3 => ⟨_, List.mem_of_getElem? (i := 3) rfl, rfl⟩ | 4 => ⟨_, List.mem_of_getElem? (i := 4) rfl, rfl⟩ | 5 => ⟨_, List.mem_of_getElem? (i := 5) rfl, rfl⟩)⟩
  sides := ⟨_, (He.glo_ok X G (x := "SIDES") (c.fa _ (fam 3 rfl))), fun H => He.tupB_ok (exm c 3 rfl) H⟩
  bTuple := (He.free_ok X G (x := "tuple") (c.fa _ (fam 49 rfl)))
  bSorted := (He.free_ok X G (x := "sorted") (c.fa _ (fam 50 rfl)))
  bZip := (He.free_ok X G (x := "zip") (c.fa _ (fam 51 rfl)))
  bRange := (He.free_ok X G (x := "range") (c.fa _ (fam 52 rfl)))
  bList := (He.free_ok X G (x := "list") (c.fa _ (fam 53 rfl)))
  bEnum := (He.free_ok X G (x := "enumerate") (c.fa _ (fam 54 rfl)))
  bLen := (He.free_ok X G (x := "len") (c.fa _ (fam 55 rfl)))
  bAny := (He.free_ok X G (x := "any") (c.fa _ (fam 56 rfl)))
  bAll := (He.free_ok X G (x := "all") (c.fa _ (fam 57 rfl)))
  bSum := (He.free_ok X G (x := "sum") (c.fa _ (fam 58 rfl)))
theorem tb_of (X : K.In h) (G : h.Ns mainGlobals mg) (c : SaysK w h K) : TB mg where
  isi := (He.free_ok X G (x := "isinstance") (c.fa _ (fam 59 rfl)))
  int := (He.free_ok X G (x := "int") (c.fa _ (fam 60 rfl)))
  bool := (He.free_ok X G (x := "bool") (c.fa _ (fam 61 rfl)))
  str := (He.free_ok X G (x := "str") (c.fa _ (fam 62 rfl)))
  limit := He.int_ok X G (c.fa _ (fam 68 rfl))
  nameLen := He.int_ok X G (c.fa _ (fam 69 rfl))
  letters := He.str_ok X G (c.fa _ (fam 71 rfl))
  lines := He.int_ok X G (c.fa _ (fam 70 rfl))
theorem tl_of (X : K.In h) (G : h.Ns mainGlobals mg) (c : SaysK w h K) : TL mg := ⟨(He.free_ok X G (x := "abs") (c.fa _ (fam 63 rfl))), (He.free_ok X G (x := "repr") (c.fa _ (fam 64 rfl))), (He.free_ok X G (x := "dict") (c.fa _ (fam 65 rfl)))⟩
theorem defs_of (X : K.In h) (G : h.Ns mainGlobals mg) (c : SaysK w h K) : Defs K mg where
  ftriples := (fnF_of c (x := "triples") (i := 18) (fnm 0 rfl) (He.glo_ok X G (x := "triples") (c.fa _ (fam 9 rfl))) (fun _ _ _ _ _ _ us hl => match us, hl with | [_, _, _], _ => by with_unfolding_all rfl))
  freplaced := (fnF_of c (x := "replaced") (i := 19) (fnm 1 rfl) (He.glo_ok X G (x := "replaced") (c.fa _ (fam 10 rfl))) (fun _ _ _ _ _ _ us hl => match us, hl with | [_, _, _], _ => by with_unfolding_all rfl))
  fneighbor := (fnF_of c (x := "neighbor") (i := 20) (fnm 2 rfl) (He.glo_ok X G (x := "neighbor") (c.fa _ (fam 11 rfl))) (fun _ _ _ _ _ _ us hl => match us, hl with | [_, _], _ => by with_unfolding_all rfl))
  fascending := (fnF_of c (x := "ascending") (i := 21) (fnm 3 rfl) (He.glo_ok X G (x := "ascending") (c.fa _ (fam 12 rfl))) (fun _ _ _ _ _ _ us hl => match us, hl with | [_], _ => by with_unfolding_all rfl))
  fmerged_lines := (fnF_of c (x := "merged_lines") (i := 22) (fnm 4 rfl) (He.glo_ok X G (x := "merged_lines") (c.fa _ (fam 13 rfl))) (fun _ _ _ _ _ _ us hl => match us, hl with | [_, _], _ => by with_unfolding_all rfl))
  fparts_of_intervals := (fnF_of c (x := "parts_of_intervals") (i := 23) (fnm 5 rfl) (He.glo_ok X G (x := "parts_of_intervals") (c.fa _ (fam 14 rfl))) (fun _ _ _ _ _ _ us hl => match us, hl with | [_, _], _ => by with_unfolding_all rfl))
  fcoarse_cells := (fnF_of c (x := "coarse_cells") (i := 24) (fnm 6 rfl) (He.glo_ok X G (x := "coarse_cells") (c.fa _ (fam 15 rfl))) (fun _ _ _ _ _ _ us hl => match us, hl with | [_, _, _], _ => by with_unfolding_all rfl))
  fsurface_squares := (fnF_of c (x := "surface_squares") (i := 25) (fnm 7 rfl) (He.glo_ok X G (x := "surface_squares") (c.fa _ (fam 16 rfl))) (fun _ _ _ _ _ _ us hl => match us, hl with | [_], _ => by with_unfolding_all rfl))
  fline_beside := (fnF_of c (x := "line_beside") (i := 26) (fnm 8 rfl) (He.glo_ok X G (x := "line_beside") (c.fa _ (fam 17 rfl))) (fun _ _ _ _ _ _ us hl => match us, hl with | [_, _], _ => by with_unfolding_all rfl))
  fneeded_indexes := (fnF_of c (x := "needed_indexes") (i := 27) (fnm 9 rfl) (He.glo_ok X G (x := "needed_indexes") (c.fa _ (fam 18 rfl))) (fun _ _ _ _ _ _ us hl => match us, hl with | [_, _, _], _ => by with_unfolding_all rfl))
  fnew_indexes := (fnF_of c (x := "new_indexes") (i := 28) (fnm 10 rfl) (He.glo_ok X G (x := "new_indexes") (c.fa _ (fam 19 rfl))) (fun _ _ _ _ _ _ us hl => match us, hl with | [_], _ => by with_unfolding_all rfl))
  fsimplified := (fnF_of c (x := "simplified") (i := 29) (fnm 11 rfl) (He.glo_ok X G (x := "simplified") (c.fa _ (fam 20 rfl))) (fun _ _ _ _ _ _ us hl => match us, hl with | [_, _, _], _ => by with_unfolding_all rfl))
  flow_point := (fnF_of c (x := "low_point") (i := 30) (fnm 12 rfl) (He.glo_ok X G (x := "low_point") (c.fa _ (fam 21 rfl))) (fun _ _ _ _ _ _ us hl => match us, hl with | [_, _], _ => by with_unfolding_all rfl))
  fhigh_point := (fnF_of c (x := "high_point") (i := 31) (fnm 13 rfl) (He.glo_ok X G (x := "high_point") (c.fa _ (fam 22 rfl))) (fun _ _ _ _ _ _ us hl => match us, hl with | [_, _], _ => by with_unfolding_all rfl))
  fsizes := (fnF_of c (x := "sizes") (i := 32) (fnm 14 rfl) (He.glo_ok X G (x := "sizes") (c.fa _ (fam 23 rfl))) (fun _ _ _ _ _ _ us hl => match us, hl with | [_, _], _ => by with_unfolding_all rfl))
  fis_integer := (fnF_of c (x := "is_integer") (i := 35) (fnm 15 rfl) (He.glo_ok X G (x := "is_integer") (c.fa _ (fam 24 rfl))) (fun _ _ _ _ _ _ us hl => match us, hl with | [_], _ => by with_unfolding_all rfl))
  fis_point := (fnF_of c (x := "is_point") (i := 36) (fnm 16 rfl) (He.glo_ok X G (x := "is_point") (c.fa _ (fam 25 rfl))) (fun _ _ _ _ _ _ us hl => match us, hl with | [_], _ => by with_unfolding_all rfl))
  fis_box := (fnF_of c (x := "is_box") (i := 37) (fnm 17 rfl) (He.glo_ok X G (x := "is_box") (c.fa _ (fam 26 rfl))) (fun _ _ _ _ _ _ us hl => match us, hl with | [_], _ => by with_unfolding_all rfl))
  fis_name := (fnF_of c (x := "is_name") (i := 38) (fnm 18 rfl) (He.glo_ok X G (x := "is_name") (c.fa _ (fam 27 rfl))) (fun _ _ _ _ _ _ us hl => match us, hl with | [_], _ => by with_unfolding_all rfl))
  fneed_name := (fnF_of c (x := "need_name") (i := 41) (fnm 19 rfl) (He.glo_ok X G (x := "need_name") (c.fa _ (fam 28 rfl))) (fun _ _ _ _ _ _ us hl => match us, hl with | [_], _ => by with_unfolding_all rfl))
  fneed_box := (fnF_of c (x := "need_box") (i := 42) (fnm 20 rfl) (He.glo_ok X G (x := "need_box") (c.fa _ (fam 29 rfl))) (fun _ _ _ _ _ _ us hl => match us, hl with | [_], _ => by with_unfolding_all rfl))
  fneed_few_lines := (fnF_of c (x := "need_few_lines") (i := 44) (fnm 21 rfl) (He.glo_ok X G (x := "need_few_lines") (c.fa _ (fam 30 rfl))) (fun _ _ _ _ _ _ us hl => match us, hl with | [_], _ => by with_unfolding_all rfl))
  fgrid_of_boxes := (fnF_of c (x := "grid_of_boxes") (i := 46) (fnm 22 rfl) (He.glo_ok X G (x := "grid_of_boxes") (c.fa _ (fam 31 rfl))) (fun _ _ _ _ _ _ us hl => match us, hl with | [_], _ => by with_unfolding_all rfl))
  findex_of := (fnF_of c (x := "index_of") (i := 47) (fnm 23 rfl) (He.glo_ok X G (x := "index_of") (c.fa _ (fam 32 rfl))) (fun _ _ _ _ _ _ us hl => match us, hl with | [_, _], _ => by with_unfolding_all rfl))
  fproduct_of := (fnF_of c (x := "product_of") (i := 48) (fnm 24 rfl) (He.glo_ok X G (x := "product_of") (c.fa _ (fam 33 rfl))) (fun _ _ _ _ _ _ us hl => match us, hl with | [_], _ => by with_unfolding_all rfl))
  fadded := (fnF_of c (x := "added") (i := 52) (fnm 25 rfl) (He.glo_ok X G (x := "added") (c.fa _ (fam 34 rfl))) (fun _ _ _ _ _ _ us hl => match us, hl with | [_, _], _ => by with_unfolding_all rfl))
  ftaken := (fnF_of c (x := "taken") (i := 53) (fnm 26 rfl) (He.glo_ok X G (x := "taken") (c.fa _ (fam 35 rfl))) (fun _ _ _ _ _ _ us hl => match us, hl with | [_, _], _ => by with_unfolding_all rfl))
  fcells_after := (fnF_of c (x := "cells_after") (i := 55) (fnm 27 rfl) (He.glo_ok X G (x := "cells_after") (c.fa _ (fam 36 rfl))) (fun _ _ _ _ _ _ us hl => match us, hl with | [_, _, _], _ => by with_unfolding_all rfl))
  fnothing := (fnF_of c (x := "nothing") (i := 57) (fnm 28 rfl) (He.glo_ok X G (x := "nothing") (c.fa _ (fam 37 rfl))) (fun _ _ _ _ _ _ us hl => match us, hl with | [], _ => by with_unfolding_all rfl))
  fblock := (fnF_of c (x := "block") (i := 58) (fnm 29 rfl) (He.glo_ok X G (x := "block") (c.fa _ (fam 38 rfl))) (fun _ _ _ _ _ _ us hl => match us, hl with | [_, _], _ => by with_unfolding_all rfl))
  f_law_pen := (fnF_of c (x := "_law_pen") (i := 60) (fnm 30 rfl) (He.glo_ok X G (x := "_law_pen") (c.fa _ (fam 39 rfl))) (fun _ _ _ _ _ _ us hl => match us, hl with | [_], _ => by with_unfolding_all rfl))
  f_law_draw := (fnF_of c (x := "_law_draw") (i := 61) (fnm 31 rfl) (He.glo_ok X G (x := "_law_draw") (c.fa _ (fam 40 rfl))) (fun _ _ _ _ _ _ us hl => match us, hl with | [_, _], _ => by with_unfolding_all rfl))
  f_law_pick := (fnF_of c (x := "_law_pick") (i := 62) (fnm 32 rfl) (He.glo_ok X G (x := "_law_pick") (c.fa _ (fam 41 rfl))) (fun _ _ _ _ _ _ us hl => match us, hl with | [_, _], _ => by with_unfolding_all rfl))
  f_law_box := (fnF_of c (x := "_law_box") (i := 63) (fnm 33 rfl) (He.glo_ok X G (x := "_law_box") (c.fa _ (fam 42 rfl))) (fun _ _ _ _ _ _ us hl => match us, hl with | [_], _ => by with_unfolding_all rfl))
  f_law_cells := (fnF_of c (x := "_law_cells") (i := 64) (fnm 34 rfl) (He.glo_ok X G (x := "_law_cells") (c.fa _ (fam 43 rfl))) (fun _ _ _ _ _ _ us hl => match us, hl with | [_], _ => by with_unfolding_all rfl))
  f_law_built := (fnF_of c (x := "_law_built") (i := 65) (fnm 35 rfl) (He.glo_ok X G (x := "_law_built") (c.fa _ (fam 44 rfl))) (fun _ _ _ _ _ _ us hl => match us, hl with | [_], _ => by with_unfolding_all rfl))
  f_law_is_solid := (fnF_of c (x := "_law_is_solid") (i := 66) (fnm 36 rfl) (He.glo_ok X G (x := "_law_is_solid") (c.fa _ (fam 45 rfl))) (fun _ _ _ _ _ _ us hl => match us, hl with | [_, _], _ => by with_unfolding_all rfl))
  f_law_refused := (fnF_of c (x := "_law_refused") (i := 67) (fnm 37 rfl) (He.glo_ok X G (x := "_law_refused") (c.fa _ (fam 46 rfl))) (fun _ _ _ _ _ _ us hl => match us, hl with | [_], _ => by with_unfolding_all rfl))
end
end SN
end TQFC

section TQFD
set_option Elab.async false
set_option linter.all false
set_option maxRecDepth 100000
set_option maxHeartbeats 1000017
/-! QFD: the bundle Mod (printed by gen_fc.py). -/
namespace SN
open PySem PySem.Spec PyProof.Rows L2 NdefX LamX
abbrev progK : Program := PySem.Challenge.pw_solidnames_k81_added_and_taken_cells
theorem ogFn {K : PySem.W.Frag} (e : ogW K = ogV) (b : ogB K = true) : ∃ (oc : Value) (od : Option Addr) (doc pm ct : Value) (cda cc : Addr) (osl : Array (Option Value)), K.lookup (ogA K) = some ⟨oc, od, .func ((nfS "OnGrid.__init__" stOG cc cda).fd doc pm ct), osl⟩ ∧ PySem.W.codeIn K (.ref cda) "OnGrid.__init__" = true ∧
    (∃ ccl cdd vs ccs file tf, K.lookup cda = some ⟨ccl, cdd, .fields vs, ccs⟩ ∧ (vs[2]? : Option Value) = some (.str file tf) ∧ ((progK.main.file : Str) == file) = true) ∧ ∃ cl cld csl, K.lookup cc = some ⟨cl, cld, .cell (some (.ref (He.ga K "OnGrid"))), csl⟩ := by
  unfold ogW at e
  unfold ogB at b
  cases q : K.lookup (ogA K) with
  | none => rw [q] at b; cases b
  | some o =>
    obtain ⟨oc, od, dt, osl⟩ := o
    rw [q] at b e
    cases dt with
    | func fd =>
      obtain ⟨n1, n2, n3, n4, n5, n6, n7, n8, n9, n10, n11, n12, n13, n14, n15⟩ := fd
      have e2 : (some (n1, n2, n3, n4, n5, n6, n7.map (·.1), n8, n9, n12, n15) : OgW) = ogV := e
      unfold ogV at e2
      simp only [Option.some.injEq, Prod.mk.injEq] at e2
      obtain ⟨h1, h2, h3, h4, h5, h6, h7, h8, h9, h10, h11⟩ := e2
      subst h1 h2 h3 h4 h5 h6 h8 h9 h10 h11
      obtain ⟨b1, b2⟩ := He.ba (show (PySem.W.codeIn K n13 "OnGrid.__init__" && (fileB K n13 && cellB K n7 (He.ga K "OnGrid"))) = true from b)
      obtain ⟨b3, b4⟩ := He.ba b2
      obtain ⟨cda, rfl⟩ := He.codeIn_ref b1
      match n7, h7, b4 with
      | [(y, cc)], h7, b4 =>
        obtain rfl : y = "__class__" := by
          have := List.cons.inj h7
          exact this.1
        have b5 : (match K.lookup cc with
          | some ⟨_, _, .cell (some (.ref E)), _⟩ => decide (E = He.ga K "OnGrid")
          | _ => false) = true := b4
        have b6 : (match K.lookup cda with
          | some ⟨_, _, .fields vs, _⟩ => (match (vs[2]? : Option Value) with
            | some (.str file _) => (progK.main.file : Str) == file
            | _ => false)
          | _ => false) = true := b3
        refine ⟨oc, od, n10, n11, n14, cda, cc, osl, rfl, b1, ?_, ?_⟩
        · split at b6
          · rename_i ccl cdd vs ccs hk
            split at b6
            · rename_i file tf hv
              exact ⟨ccl, cdd, vs, ccs, file, tf, hk, hv, b6⟩
            · cases b6
          · cases b6
        · split at b5
          · rename_i cl cld E csl hk
            have := of_decide_eq_true b5
            subst this
            exact ⟨cl, cld, csl, hk⟩
          · cases b5
    | _ => cases b
theorem no_ok {K : PySem.W.Frag} (b : noB K = true) (H : Hp) : (rTupL K (rTupL K rInt)).r H (.ref (He.ga K "NO_LINES")) noL := by
  unfold noB at b
  split at b
  · rename_i c od its n sl hk
    obtain ⟨b1, b2⟩ := He.ba b
    obtain ⟨b3, b4⟩ := He.ba b2
    have e1 := of_decide_eq_true b1
    have e3 := of_decide_eq_true b3
    subst e1
    have hl : its.toList.length = 3 := by rw [Array.length_toList]; exact e3
    have all := List.all_eq_true.mp b4
    have one : ∀ v ∈ its.toList, ∃ a, v = .ref a ∧ SqT K H a [] := fun v hv => by
      have := all v hv
      unfold emptyB at this
      split at this
      · rename_i a
        split at this
        · rename_i c2 od2 its2 n2 sl2 hk2
          obtain ⟨d1, d2⟩ := He.ba this
          have e := of_decide_eq_true d1
          subst e
          have e2 : its2.toList = [] := List.isEmpty_iff.mp d2
          refine ⟨a, rfl, .inr ⟨_, its2, n2, hk2, rfl, rfl, ?_, by rw [e2]; exact .nil⟩⟩
          rw [← Array.length_toList, e2]; exact Nat.zero_le _
        · cases this
      · cases this
    match hq : its.toList, hl with
    | [x, y, z], _ =>
      obtain ⟨a1, rfl, s1⟩ := one x (by rw [hq]; simp)
      obtain ⟨a2, rfl, s2⟩ := one y (by rw [hq]; simp)
      obtain ⟨a3, rfl, s3⟩ := one z (by rw [hq]; simp)
      refine ⟨_, [.ref a1, .ref a2, .ref a3], rfl, .inr ⟨_, its, n, hk, rfl, rfl, by rw [e3]; rw [sizeLine_eq]; omega, by rw [hq]; exact .cons rfl (.cons rfl (.cons rfl .nil))⟩, ?_⟩
      exact .cons ⟨_, _, rfl, s1, .nil⟩ (.cons ⟨_, _, rfl, s2, .nil⟩ (.cons ⟨_, _, rfl, s3, .nil⟩ .nil))
  · cases b
section
variable {w : World} {h : Heap} {K : PySem.W.Frag} {mg : Str → Option Value}
theorem cs_of (X : K.In h) (G : h.Ns mainGlobals mg) (c : SaysK w h K) : CsOk progK w K mg (cS K) (cG K) (cM K) (cTM K) where
  tm := ⟨⟨(exm c 5 rfl), (exm c 6 rfl), of_decide_eq_true (exm c 7 rfl), (by obtain ⟨cd, h1, h2⟩ := PySem.W.any_some (show PySem.W.hasDictIn K (cTM K) = true from (exm c 8 rfl)); exact ⟨cd, h1, h2⟩), of_decide_eq_true (exm c 9 rfl), of_decide_eq_true (exm c 10 rfl), of_decide_eq_true (exm c 11 rfl), (exm c 12 rfl)⟩, ⟨(He.free_ok X G (x := "OverflowError") (c.fa _ (fam 67 rfl))), by kernel_rfl⟩, (He.glo_ok X G (x := "TooMany") (c.fa _ (fam 8 rfl))),
    ⟨_, of_decide_eq_true (exm c 13 rfl), of_decide_eq_true (exm c 14 rfl), (fnAt_of c (cl := "TooMany") (m := "__init__") (qual := "TooMany.__init__") (i := 7) (j := 0) (fnm 55 rfl) (fun _ _ _ _ _ _ us hl => match us, hl with | [_, _], _ => by with_unfolding_all rfl))⟩⟩
  sol := ⟨(He.cls_ok (x := "Solid") (c.fa _ (fam 72 rfl))), (He.noat_ok (x := "Solid") (f := "grid_lines") (c.fa _ (fam 74 rfl))), (He.noat_ok (x := "Solid") (f := "grid_cells") (c.fa _ (fam 75 rfl)))⟩
  og := ⟨(He.cls_ok (x := "OnGrid") (c.fa _ (fam 76 rfl))), (He.noat_ok (x := "OnGrid") (f := "grid_lines") (c.fa _ (fam 78 rfl))), (He.noat_ok (x := "OnGrid") (f := "grid_cells") (c.fa _ (fam 79 rfl)))⟩
  mkd := ⟨(He.cls_ok (x := "Marked") (c.fa _ (fam 80 rfl))), (He.noat_ok (x := "Marked") (f := "grid_lines") (c.fa _ (fam 82 rfl))), (He.noat_ok (x := "Marked") (f := "grid_cells") (c.fa _ (fam 83 rfl))), (He.noat_ok (x := "Marked") (f := "grid_marks") (c.fa _ (fam 84 rfl)))⟩
  mS := (He.glo_ok X G (x := "Solid") (c.fa _ (fam 5 rfl)))
  mG := (He.glo_ok X G (x := "OnGrid") (c.fa _ (fam 6 rfl)))
  mM := (He.glo_ok X G (x := "Marked") (c.fa _ (fam 7 rfl)))
  sup := (He.free_ok X G (x := "super") (c.fa _ (fam 66 rfl)))
  iS := ⟨_, (He.mkr_ok (x := "Solid") (c.fa _ (fam 73 rfl))), fun_at c (cl := "Solid") (m := "__init__") (qual := "Solid.__init__") (i := 49) (j := 0) (fnm 47 rfl)⟩
  iG := ⟨_, _, (He.mkr_ok (x := "OnGrid") (c.fa _ (fam 77 rfl))), ⟨ogFn c.og (exm c 37 rfl), Option.isSome_iff_exists.mp (exm c 31 rfl), of_decide_eq_true (exm c 32 rfl), of_decide_eq_true (exm c 33 rfl), of_decide_eq_true (exm c 34 rfl), (exm c 35 rfl), of_decide_eq_true (exm c 36 rfl), by kernel_rfl⟩, fun_at c (cl := "Solid") (m := "__init__") (qual := "Solid.__init__") (i := 49) (j := 0) (fnm 47 rfl)⟩
  iM := ⟨_, (He.mkr_ok (x := "Marked") (c.fa _ (fam 81 rfl))), (fnAt_of c (cl := "Marked") (m := "__init__") (qual := "Marked.__init__") (i := 56) (j := 0) (fnm 48 rfl) (fun _ _ _ _ _ _ us hl => match us, hl with | [_, _, _, _], _ => by with_unfolding_all rfl))⟩
theorem mod_of (X : K.In h) (G : h.Ns mainGlobals mg) (c : SaysK w h K) : Mod progK w K mg (cS K) (cG K) (cM K) (cTM K) where
  tx := tx_of X G c
  tb := tb_of X G c
  tn := ⟨_, (He.glo_ok X G (x := "NO_LINES") (c.fa _ (fam 4 rfl))), no_ok (exm c 4 rfl)⟩
  tl := tl_of X G c
  cs := cs_of X G c
  on := ⟨_, (He.meth_ok (x := "Marked") (m := "on_lines") (c.fa _ (fam 93 rfl))), (fnAt_of c (cl := "Marked") (m := "on_lines") (qual := "Marked.on_lines") (i := 56) (j := 7) (fnm 50 rfl) (fun _ _ _ _ _ _ us hl => match us, hl with | [_, _], _ => by with_unfolding_all rfl))⟩
  mt := ⟨⟨_, (He.meth_ok (x := "Marked") (m := "operated") (c.fa _ (fam 94 rfl))), (fnAt_of c (cl := "Marked") (m := "operated") (qual := "Marked.operated") (i := 56) (j := 8) (fnm 51 rfl) (fun _ _ _ _ _ _ us hl => match us, hl with | [_, _, _], _ => by with_unfolding_all rfl))⟩, ⟨_, (He.meth_ok (x := "Marked") (m := "joined") (c.fa _ (fam 95 rfl))), (fnAt_of c (cl := "Marked") (m := "joined") (qual := "Marked.joined") (i := 56) (j := 9) (fnm 52 rfl) (fun _ _ _ _ _ _ us hl => match us, hl with | [_, _], _ => by with_unfolding_all rfl))⟩, ⟨_, (He.meth_ok (x := "Marked") (m := "cut") (c.fa _ (fam 96 rfl))), (fnAt_of c (cl := "Marked") (m := "cut") (qual := "Marked.cut") (i := 56) (j := 10) (fnm 53 rfl) (fun _ _ _ _ _ _ us hl => match us, hl with | [_, _], _ => by with_unfolding_all rfl))⟩, ⟨_, (He.meth_ok (x := "Marked") (m := "met") (c.fa _ (fam 97 rfl))), (fnAt_of c (cl := "Marked") (m := "met") (qual := "Marked.met") (i := 56) (j := 11) (fnm 54 rfl) (fun _ _ _ _ _ _ us hl => match us, hl with | [_, _], _ => by with_unfolding_all rfl))⟩, ⟨_, (He.meth_ok (x := "Marked") (m := "to_solid") (c.fa _ (fam 92 rfl))), (fnAt_of c (cl := "Marked") (m := "to_solid") (qual := "Marked.to_solid") (i := 56) (j := 2) (fnm 49 rfl) (fun _ _ _ _ _ _ us hl => match us, hl with | [_], _ => by with_unfolding_all rfl))⟩⟩
  bo := ⟨_, (He.meth_ok (x := "OnGrid") (m := "both") (c.fa _ (fam 88 rfl))), (fnAt_of c (cl := "OnGrid") (m := "both") (qual := "Solid.both") (i := 49) (j := 4) (fnm 43 rfl) (fun _ _ _ _ _ _ us hl => match us, hl with | [_, _], _ => by with_unfolding_all rfl))⟩
  bx := ⟨_, (He.meth_ok (x := "OnGrid") (m := "boxes") (c.fa _ (fam 91 rfl))), (fnAt_of c (cl := "OnGrid") (m := "boxes") (qual := "Solid.boxes") (i := 49) (j := 12) (fnm 46 rfl) (fun _ _ _ _ _ _ us hl => match us, hl with | [_], _ => by with_unfolding_all rfl))⟩
  sb := ⟨_, (exm c 22 rfl), (He.meth_ok (x := "OnGrid") (m := "__sub__") (c.fa _ (fam 90 rfl))).at_, (He.meth_ok (x := "OnGrid") (m := "__sub__") (c.fa _ (fam 90 rfl))).fn, (fnAt_of c (cl := "OnGrid") (m := "__sub__") (qual := "Solid.__sub__") (i := 49) (j := 6) (fnm 45 rfl) (fun _ _ _ _ _ _ us hl => match us, hl with | [_, _], _ => by with_unfolding_all rfl))⟩
  or_ := ⟨_, (He.meth_ok (x := "OnGrid") (m := "__or__") (c.fa _ (fam 89 rfl))).at_, (He.meth_ok (x := "OnGrid") (m := "__or__") (c.fa _ (fam 89 rfl))).fn, (fnAt_of c (cl := "OnGrid") (m := "__or__") (qual := "Solid.__or__") (i := 49) (j := 5) (fnm 44 rfl) (fun _ _ _ _ _ _ us hl => match us, hl with | [_, _], _ => by with_unfolding_all rfl))⟩
  bl := ⟨_, (He.meth_ok (x := "OnGrid") (m := "__bool__") (c.fa _ (fam 86 rfl))).at_, (He.meth_ok (x := "OnGrid") (m := "__bool__") (c.fa _ (fam 86 rfl))).fn, (fnAt_of c (cl := "OnGrid") (m := "__bool__") (qual := "Solid.__bool__") (i := 49) (j := 2) (fnm 41 rfl) (fun _ _ _ _ _ _ us hl => match us, hl with | [_], _ => by with_unfolding_all rfl))⟩
  eq := ⟨_, ⟨of_decide_eq_true (exm c 20 rfl), of_decide_eq_true (exm c 21 rfl), (He.meth_ok (x := "OnGrid") (m := "__eq__") (c.fa _ (fam 85 rfl))).at_, (He.meth_ok (x := "OnGrid") (m := "__eq__") (c.fa _ (fam 85 rfl))).fn⟩, (fnAt_of c (cl := "OnGrid") (m := "__eq__") (qual := "Solid.__eq__") (i := 49) (j := 1) (fnm 40 rfl) (fun _ _ _ _ _ _ us hl => match us, hl with | [_, _], _ => by with_unfolding_all rfl))⟩
  hs := ⟨_, (He.meth_ok (x := "OnGrid") (m := "__contains__") (c.fa _ (fam 87 rfl))).at_, (He.meth_ok (x := "OnGrid") (m := "__contains__") (c.fa _ (fam 87 rfl))).fn, (fnAt_of c (cl := "OnGrid") (m := "__contains__") (qual := "Solid.__contains__") (i := 49) (j := 3) (fnm 42 rfl) (fun _ _ _ _ _ _ us hl => match us, hl with | [_, _], _ => by with_unfolding_all rfl))⟩
  is_ := ⟨of_decide_eq_true (exm c 15 rfl), of_decide_eq_true (exm c 16 rfl), of_decide_eq_true (exm c 17 rfl), of_decide_eq_true (exm c 18 rfl), of_decide_eq_true (exm c 19 rfl)⟩
  vo := by
    obtain ⟨fd, Fv⟩ := c.fn _ (fnm 56 rfl)
    have F' : Fun K "volume" "Solid.volume" (mth 49 8) (He5.wf K (He.ga K "OnGrid") "property" "volume") fd := He5.fun_of Fv
    refine ⟨_, _, ⟨of_decide_eq_true (exm c 23 rfl), of_decide_eq_true (exm c 24 rfl), of_decide_eq_true (exm c 25 rfl), ?_⟩, ⟨fd, F', F'.binds (fun _ _ _ _ _ _ us hl => match us, hl with | [_], _ => by with_unfolding_all rfl)⟩⟩
    have b := (exm c 26 rfl)
    unfold He5.wf
    split at b
    · rename_i f r e
      exact ⟨r, by rw [e]⟩
    · cases b
  rf := ⟨xfB_ok (exm c 27 rfl), of_decide_eq_true (exm c 28 rfl), of_decide_eq_true (exm c 29 rfl), of_decide_eq_true (exm c 30 rfl), (He.glo_ok X G (x := "TooMany") (c.fa _ (fam 8 rfl))), (He.free_ok X G (x := "OverflowError") (c.fa _ (fam 67 rfl))), (He.free_ok X G (x := "isinstance") (c.fa _ (fam 59 rfl)))⟩
  ds := defs_of X G c
end
end SN
end TQFD

section TQRP
set_option Elab.async false
set_option linter.all false
set_option maxRecDepth 100000
set_option maxHeartbeats 0
/-! QRP: the top's run in the kernel, the facts at given addresses. -/
namespace SN
open PySem PySem.W PySem.Calls PyProof.Rows
abbrev rowK : OpenRow := OpenLaw.row PySem.Challenge.rw_solidnames_k81_added_and_taken_cells
abbrev qvK : Program := view rowK.prog [69]
def nm0 : List PySem.Str := ["_wall", "InvalidBox", "InvalidAxis", "InvalidNumber", "InvalidName", "OutOfBounds", "TooMany", "LIMIT", "LINES", "AXES", "SIDES", "NAME_LENGTH", "AXIS_OF", "STEP_OF", "OPPOSITE", "NO_LINES", "triples", "replaced", "neighbor", "ascending", "merged_lines", "parts_of_intervals", "coarse_cells", "surface_squares", "line_beside", "needed_indexes", "new_indexes", "simplified", "low_point", "high_point"]
def nm1 : List PySem.Str := ["sizes", "LETTERS", "is_integer", "is_point", "is_box", "is_name", "need_axis", "need_integers", "need_name", "need_box", "need_few_lines", "need_bounds", "grid_of_boxes", "index_of", "product_of", "Solid", "OnGrid", "added", "taken", "cells_after", "Marked", "nothing", "block", "_law_pen", "_law_draw", "_law_pick", "_law_box", "_law_cells", "_law_built", "_law_is_solid"]
def nm2 : List PySem.Str := ["_law_refused", "_law_comb_right"]
def namesK : List PySem.Str := nm0 ++ nm1 ++ nm2
def obK (s : SharedT) : AlK := obsPG faK fnK tsK tfK exL ogW asK (HandSHeadRun.getT s)
theorem obK_eq (s : SharedT) : obK s = hkK.obs s.abs := obsPG_eq faK fnK tsK tfK exL ogW ogV asK (HandSHeadRun.getT_eq s)

noncomputable section
abbrev wF (w : World) (b : Bool) : World := w.withFollow "special-get-raises" b
abbrev endK (w : World) (os : OsState) : Option SharedT := HandSHeadRun.endF (HandSHeadRun.stepQ (HandSHeadRun.denQ HandSHeadRun.tabQ) rowK.prog w) 20000 rowK.prog w os
end
end SN
end TQRP

section TQFN
set_option Elab.async false
set_option linter.all false
set_option maxRecDepth 100000
set_option maxHeartbeats 0
/-! QFN: the top's run. -/
namespace SN
open PySem PySem.W PySem.Calls PyProof.Rows
theorem run_f (w : World) : HandSHeadRun.RunEq rowK qvK hkK obK 20000 namesK (wF w false) := by
  intro os
  kernel_rfl
theorem run_t (w : World) : HandSHeadRun.RunEq rowK qvK hkK obK 20000 namesK (wF w true) := by
  intro os
  kernel_rfl
theorem runK (w : World) : HandSHeadRun.RunEq rowK qvK hkK obK 20000 namesK w := byRow2 "special-get-raises" (P := fun w => HandSHeadRun.RunEq rowK qvK hkK obK 20000 namesK w) run_f run_t w
end SN
end TQFN

section TQFL
set_option Elab.async false
set_option linter.all false
set_option maxRecDepth 100000
set_option maxHeartbeats 4000017
/-! QFL: what the walk's end asks of the law. -/
namespace SN
open PySem PySem.Spec PyProof.Rows L2 NdefX LamX
abbrev pCm : He.Defn := ("_law_comb_right", none)
theorem funC_of {w : World} {h : Heap} {K : PySem.W.Frag} {mg : Str → Option Value} (X : K.In h) (G : h.Ns mainGlobals mg) (c : SaysK w h K) : FunC K mg "_law_comb_right" stCmb ["_law_pen_here"] (He.cT K pCm).1 := by
  obtain ⟨fd, Fd⟩ := c.fn (dT "_law_comb_right" 68) (fnm 38 rfl)
  have F' : Fun K "_law_comb_right" "_law_comb_right" stCmb (He.ga K "_law_comb_right") fd := He5.fun_of Fd
  have hb := F'.binds (ps := ["_law_pen_here"]) (fun _ _ _ _ _ _ us hl => match us, hl with | [_], _ => by with_unfolding_all rfl)
  obtain ⟨⟨oc, od, kV, doc, pm, an, cdv, ct, osl, rfl, lk, hcd⟩, kp⟩ := F'
  obtain ⟨c0, rfl⟩ := He.codeIn_ref hcd
  have e : (He.cT K pCm).1 = c0 := He.codeOf_eq (p := pCm) lk rfl
  rw [e]
  exact ⟨_, oc, od, kV, doc, pm, an, ct, osl, lk, hcd, kp, He.glo_ok X G (x := "_law_comb_right") (c.fa _ (fam 47 rfl)), hb⟩
theorem law_at {w : World} {h : Heap} {K : PySem.W.Frag} {mg : Str → Option Value} {fa : Addr} (X : K.In h) (G : h.Ns mainGlobals mg) (c : SaysK w h K) (hm : mg ("law" : Str) = some (.ref fa)) :
    LawAtS PySem.Challenge.rw_solidnames_k81_added_and_taken_cells w K (L2.CX progK w) 13 63 "_law_script" mg fa h := by
  obtain ⟨fd, Fl⟩ := c.fn (dT "law" 69) (fnm 39 rfl)
  have F' : Fun K "law" "law" stLaw (He.ga K "law") fd := He5.fun_of Fl
  have e := hm.symm.trans (He.glo_ok X G (x := "law") (c.fa _ (fam 48 rfl)))
  cases e
  have b : ∀ (s : Shared) (u : Value), BindsTo s fd ⟨[u], []⟩ [("_law_script", u)] := fun s u => (FunD.bindsA (ps := ["_law_script"]) Fl fun _ _ _ _ _ _ us hl => match us, hl with | [_], _ => by with_unfolding_all rfl) s [u] rfl
  have one : ∀ {Q : Addr × Addr → Prop}, Q (He.cT K pCm) → ∀ p ∈ [He.cT K pCm], Q p := fun q p hp => by rw [List.mem_singleton.mp hp]; exact q
  have mem : pCm ∈ tfK := List.mem_singleton.mpr rfl
  refine ⟨fd, [He.cT K pCm], spLaw K [((He.cT K pCm).2, (envOfC "_law_comb_right" (defScope stCmb) 0 0 .none).qual ++ "<lambda>")], one (c.empty _ mem), one (c.out _ mem), one (PySem.W.codeHd_of_K X (c.hd _ mem)), b, fun H a ns _ _ hT hS => ?_, fun base Kb Gb hTB => ?_⟩
  · refine ⟨a, ns, rfl, hS, fun p hp => ?_, fun _ => rfl⟩
    rw [List.mem_singleton.mp hp]
    exact TabS.nil (hT _ (List.mem_singleton.mpr rfl))
  · exact law_ok (mod_of X G c) (funC_of X G c) (hTB _ (List.mem_singleton.mpr rfl)) rfl F'
end SN
end TQFL

section TQZZ
set_option Elab.async false
set_option linter.all false
set_option maxRecDepth 100000
set_option maxHeartbeats 0
open PySem PySem.W PySem.Calls PyProof.Rows
theorem PySem.Challenge.cw_solidnames_k81_added_and_taken_cells_holds : PySem.Challenge.rw_solidnames_k81_added_and_taken_cells.Holds := by
  w_on; o_law
  refine HandSHeadRun.head_any (r := OpenLaw.row PySem.Challenge.rw_solidnames_k81_added_and_taken_cells) (q := SN.qvK) (H := SN.hkK) (ob := SN.obK) (M := 20000) (loose := SN.namesK) (d := HandSHeadRun.topDef SN.rowK.prog 69) (kwd := []) SN.obK_eq
    (by kernel_rfl) (fun s => by kernel_rfl) SN.runK (by kernel_rfl) (by kernel_rfl) (by kernel_rfl) (by rfl) (by first | assumption | decide +kernel) (by decide +kernel) ⟨rfl, rfl, rfl, rfl, rfl, by decide +kernel⟩ ?hw ?hc
  case hw => w_witness2
  case hc =>
    refine LamX.walk_ofTsE (l := PySem.Challenge.rw_solidnames_k81_added_and_taken_cells) (n := 63) (k := 13) (x := "_law_script") (CX := fun w => L2.CX SN.progK w) rfl (by decide) (by kernel_rfl) ⟨rfl, by decide, by decide⟩ ?F (fun _ _ _ _ _ z => by
      obtain ⟨_, _, _, _, _, _, _, _, _, _, _, _, y⟩ := z
      exact y.elim)
    intro w mg fa h Y G hmg0
    obtain ⟨K, KX, c⟩ := Y
    have hmg : mg ("law" : PySem.Str) = some (.ref fa) := by
      have e : (HandSHeadRun.topDef SN.rowK.prog 69).name = ("law" : PySem.Str) := by kernel_rfl
      rw [← e]
      exact hmg0
    exact ⟨K, KX, SN.law_at KX G c hmg⟩
end TQZZ
