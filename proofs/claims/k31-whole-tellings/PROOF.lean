import PyProof.Rows.All
import Wide.All
import OpenK.AllK
import Wide.FinOn
import HandS.ForMost
import HandS.Wide
import HandS.IsInst
import HandS.Zip
import HandS.More
import HandS.TryOnly
import HandS.CallLocal
import KE.KStateDown
import HandS.Exc
import HandS.Defaults
import HandS.Head0
import HandS.Head1
import HandS.Head2
import HandS.HeadEnd
import HandS.HeadHook1
import HandS.HeadHook2
import HandS.HeadHook3
import HandS.Walk
import HandS.Text
import PyProof.P3Eq
import HandS.Words
import PySem.Challenge.RW_movebook_k31_whole_tellings
set_option Elab.async false
set_option linter.all false
set_option maxRecDepth 100000
set_option maxHeartbeats 4000000
/-! A layer of pure data over the hand layer: what a def does of data alone, the heap out of sight. -/
namespace Mb
open PySem PySem.Spec PyProof.Rows L2

/-! ### a value stands for data -/
mutual
inductive Rp (K : PySem.W.Frag) (H : Hp) : V → PyData → Prop
  | non : Rp K H .non .none
  | bl (b : Bool) : Rp K H (.bl b) (.bool b)
  | int (i : Int) : Rp K H (.int i) (.int i)
  | str (x : Str) : Rp K H (.str x) (.str x)
  | lst {a : Addr} {xs : List V} {ds : List PyData} : H a = some (.lst xs) → RpAll K H xs ds → Rp K H (.ref a) (.list ds)
  | tup {a : Addr} {xs : List V} {ds : List PyData} : SqT K H a xs → RpAll K H xs ds → Rp K H (.ref a) (.tuple ds)
  | dic {a : Addr} {kvs : List (Key × V)} {ds : List (PyData × PyData)} : H a = some (.dK kvs) → RpKvs K H kvs ds → Rp K H (.ref a) (.dict ds)
inductive RpAll (K : PySem.W.Frag) (H : Hp) : List V → List PyData → Prop
  | nil : RpAll K H [] []
  | cons {v : V} {vs : List V} {d : PyData} {ds : List PyData} : Rp K H v d → RpAll K H vs ds → RpAll K H (v :: vs) (d :: ds)
inductive RpKvs (K : PySem.W.Frag) (H : Hp) : List (Key × V) → List (PyData × PyData) → Prop
  | nil : RpKvs K H [] []
  | cons {k : Str} {v : V} {kvs : List (Key × V)} {d : PyData} {ds : List (PyData × PyData)} : Rp K H v d → RpKvs K H kvs ds → RpKvs K H ((.inr k, v) :: kvs) ((.str k, d) :: ds)
end
theorem Same.seqT {K : PySem.W.Frag} {H H' : Hp} {a : Addr} {xs : List V} (e : Same H H') (h : SqT K H a xs) : SqT K H' a xs := by
  rcases h with (h | ⟨o, h⟩) | h
  · exact .inl (.inl (e _ _ h))
  · exact .inl (.inr ⟨o, e _ _ h⟩)
  · exact .inr h
theorem same_upd {H : Hp} {p : Addr} {o : HO} (h : H p = none) : Same H (upd H p o) := fun b x e => by
  rw [upd_ne (ne_of_none e h)]
  exact e
section
variable {K : PySem.W.Frag} {H H' : Hp}
mutual
theorem Rp.mono (s : Same H H') : ∀ {v : V} {d : PyData}, Rp K H v d → Rp K H' v d
  | _, _, .non => .non
  | _, _, .bl b => .bl b
  | _, _, .int i => .int i
  | _, _, .str x => .str x
  | _, _, .lst h a => .lst (s _ _ h) (RpAll.mono s a)
  | _, _, .tup h a => .tup (Same.seqT s h) (RpAll.mono s a)
  | _, _, .dic h a => .dic (s _ _ h) (RpKvs.mono s a)
theorem RpAll.mono (s : Same H H') : ∀ {vs : List V} {ds : List PyData}, RpAll K H vs ds → RpAll K H' vs ds
  | _, _, .nil => .nil
  | _, _, .cons h t => .cons (Rp.mono s h) (RpAll.mono s t)
theorem RpKvs.mono (s : Same H H') : ∀ {vs : List (Key × V)} {ds : List (PyData × PyData)}, RpKvs K H vs ds → RpKvs K H' vs ds
  | _, _, .nil => .nil
  | _, _, .cons h t => .cons (Rp.mono s h) (RpKvs.mono s t)
end
theorem Rp.int_inv {v : V} {i : Int} (h : Rp K H v (.int i)) : v = .int i := by cases h; rfl
theorem Rp.str_inv {v : V} {i : Str} (h : Rp K H v (.str i)) : v = .str i := by cases h; rfl
theorem Rp.bl_inv {v : V} {i : Bool} (h : Rp K H v (.bool i)) : v = .bl i := by cases h; rfl
theorem Rp.non_inv {v : V} (h : Rp K H v .none) : v = .non := by cases h; rfl
theorem Rp.lst_inv {v : V} {ds : List PyData} (h : Rp K H v (.list ds)) : ∃ a xs, v = .ref a ∧ H a = some (.lst xs) ∧ RpAll K H xs ds := by
  cases h with | lst h a => exact ⟨_, _, rfl, h, a⟩
theorem Rp.tup_inv {v : V} {ds : List PyData} (h : Rp K H v (.tuple ds)) : ∃ a xs, v = .ref a ∧ SqT K H a xs ∧ RpAll K H xs ds := by
  cases h with | tup h a => exact ⟨_, _, rfl, h, a⟩
theorem Rp.dic_inv {v : V} {ds : List (PyData × PyData)} (h : Rp K H v (.dict ds)) : ∃ a kvs, v = .ref a ∧ H a = some (.dK kvs) ∧ RpKvs K H kvs ds := by
  cases h with | dic h a => exact ⟨_, _, rfl, h, a⟩
theorem RpAll.length {vs : List V} : ∀ {ds : List PyData}, RpAll K H vs ds → vs.length = ds.length := by
  induction vs with
  | nil => intro ds h; cases h; rfl
  | cons v vs ih => intro ds h; cases h with | cons _ t => rw [List.length_cons, List.length_cons, ih t]
theorem RpAll.get {vs : List V} : ∀ {ds : List PyData} {i : Nat} {d : PyData}, RpAll K H vs ds → ds[i]? = some d → ∃ v, vs[i]? = some v ∧ Rp K H v d := by
  induction vs with
  | nil => intro ds i d h e; cases h; simp at e
  | cons v vs ih =>
    intro ds i d h e
    cases h with
    | cons a t =>
      cases i with
      | zero => simp at e; subst e; exact ⟨v, rfl, a⟩
      | succ i => obtain ⟨u, h1, h2⟩ := ih t (by simpa using e); exact ⟨u, by simpa using h1, h2⟩
theorem RpAll.get' {vs : List V} : ∀ {ds : List PyData} {i : Nat} {v : V}, RpAll K H vs ds → vs[i]? = some v → ∃ d, ds[i]? = some d ∧ Rp K H v d := by
  induction vs with
  | nil => intro ds i d h e; simp at e
  | cons v vs ih =>
    intro ds i d h e
    cases h with
    | cons a t =>
      cases i with
      | zero => simp at e; subst e; exact ⟨_, rfl, a⟩
      | succ i => obtain ⟨u, h1, h2⟩ := ih t (by simpa using e); exact ⟨u, by simpa using h1, h2⟩
theorem RpAll.append {vs : List V} : ∀ {ds : List PyData} {us : List V} {es : List PyData}, RpAll K H vs ds → RpAll K H us es → RpAll K H (vs ++ us) (ds ++ es) := by
  induction vs with
  | nil => intro ds us es h g; cases h; exact g
  | cons v vs ih => intro ds us es h g; cases h with | cons a t => exact .cons a (ih t g)
theorem RpAll.drop {vs : List V} : ∀ {ds : List PyData} (n : Nat), RpAll K H vs ds → RpAll K H (vs.drop n) (ds.drop n) := by
  induction vs with
  | nil => intro ds n h; cases h; simp; exact .nil
  | cons v vs ih =>
    intro ds n h
    cases h with
    | cons a t =>
      cases n with
      | zero => exact .cons a t
      | succ n => exact ih n t
theorem RpAll.take {vs : List V} : ∀ {ds : List PyData} (n : Nat), RpAll K H vs ds → RpAll K H (vs.take n) (ds.take n) := by
  induction vs with
  | nil => intro ds n h; cases h; simp; exact .nil
  | cons v vs ih =>
    intro ds n h
    cases h with
    | cons a t =>
      cases n with
      | zero => exact .nil
      | succ n => exact .cons a (ih n t)
theorem RpAll.snoc {vs : List V} {ds : List PyData} {v : V} {d : PyData} (h : RpAll K H vs ds) (g : Rp K H v d) : RpAll K H (vs ++ [v]) (ds ++ [d]) := h.append (.cons g .nil)
theorem RpAll.ints : ∀ {ns : List Int} {vs : List V}, RpAll K H vs (ns.map PyData.int) → vs = ns.map V.int := by
  intro ns
  induction ns with
  | nil => intro vs h; cases h; rfl
  | cons n ns ih => intro vs h; cases h with | cons a t => cases a; rw [ih t]; rfl
/-! data without dicts, for == -/
mutual
theorem Rp.dp : ∀ {v : V} {d : PyData}, Rp K H v d → d.canLay0 = true → Dp K H v d
  | _, _, .non, _ => .non
  | _, _, .bl b, _ => .bl b
  | _, _, .int i, _ => .int i
  | _, _, .str x, _ => .str x
  | _, _, .lst h a, c => .lst (SqL.of h) (RpAll.dp a (by simpa [PyData.canLay0] using c))
  | _, _, .tup h a, c => .tup h (RpAll.dp a (by simpa [PyData.canLay0] using c))
  | _, _, .dic h a, c => by simp [PyData.canLay0] at c
theorem RpAll.dp : ∀ {vs : List V} {ds : List PyData}, RpAll K H vs ds → PyData.canLayAll0 ds = true → DpAll K H vs ds
  | _, _, .nil, _ => .nil
  | _, _, .cons h t, c => by
    rw [PyData.canLayAll0, Bool.and_eq_true] at c
    exact .cons (Rp.dp h c.1) (RpAll.dp t c.2)
end
/-- what a dict with text keys holds -/
def dGetK : List (PyData × PyData) → Str → Option PyData
  | [], _ => none
  | (.str x, d) :: r, k => if x = k then some d else dGetK r k
  | _ :: r, k => dGetK r k
theorem RpKvs.get {kvs : List (Key × V)} {k : Str} : ∀ {ds : List (PyData × PyData)}, RpKvs K H kvs ds → (valV kvs (.inr k) = none ∧ dGetK ds k = none) ∨ ∃ v d, valV kvs (.inr k) = some v ∧ dGetK ds k = some d ∧ Rp K H v d := by
  induction kvs with
  | nil => intro ds h; cases h; exact .inl ⟨rfl, rfl⟩
  | cons p kvs ih =>
    intro ds h
    cases h with
    | @cons x v _ d r a t =>
      by_cases e : x = k
      · subst e
        exact .inr ⟨v, d, valV_pos rfl, by simp [dGetK], a⟩
      · have e2 : ¬ (Sum.inr x : Key) = Sum.inr k := fun q => e (Sum.inr.inj q)
        rcases ih t with ⟨h1, h2⟩ | ⟨u, f, h1, h2, h3⟩
        · exact .inl ⟨(valV_neg e2).trans h1, by simp [dGetK, e, h2]⟩
        · exact .inr ⟨u, f, (valV_neg e2).trans h1, by simp [dGetK, e, h2], h3⟩
end

/-! ### the slots as data -/
abbrev Dn := List (Option PyData)
structure EnvOk (K : PySem.W.Frag) (H : Hp) (δ : Dn) (σ : L2.St) : Prop where
  len : δ.length = σ.length
  at_ : ∀ (i : Nat) (d : PyData), δ[i]? = some (some d) → ∃ x, σ[i]? = some (some x) ∧ Rp K H x d
section
variable {K : PySem.W.Frag} {H H' : Hp} {δ : Dn} {σ : L2.St}
theorem EnvOk.mono (h : EnvOk K H δ σ) (s : Same H H') : EnvOk K H' δ σ := ⟨h.len, fun i d e => let ⟨x, h1, h2⟩ := h.at_ i d e; ⟨x, h1, h2.mono s⟩⟩
theorem EnvOk.set (h : EnvOk K H δ σ) {x : V} {d : PyData} (r : Rp K H x d) (i : Nat) : EnvOk K H (δ.set i (some d)) (σ.set i (some x)) := by
  refine ⟨by rw [List.length_set, List.length_set, h.len], fun j e q => ?_⟩
  by_cases hj : i = j
  · subst hj
    by_cases hl : i < δ.length
    · rw [List.getElem?_set_self hl] at q
      cases q
      exact ⟨x, by rw [List.getElem?_set_self (by rw [← h.len]; exact hl)], r⟩
    · rw [List.getElem?_eq_none (by rw [List.length_set]; omega)] at q; cases q
  · rw [List.getElem?_set_ne hj] at q
    obtain ⟨y, h1, h2⟩ := h.at_ j e q
    exact ⟨y, by rw [List.getElem?_set_ne hj]; exact h1, h2⟩
theorem EnvOk.wipe1 (h : EnvOk K H δ σ) (i : Nat) : EnvOk K H (δ.set i none) (σ.set i none) := by
  refine ⟨by rw [List.length_set, List.length_set, h.len], fun j e q => ?_⟩
  by_cases hj : i = j
  · subst hj
    by_cases hl : i < δ.length
    · rw [List.getElem?_set_self hl] at q; cases q
    · rw [List.getElem?_eq_none (by rw [List.length_set]; omega)] at q; cases q
  · rw [List.getElem?_set_ne hj] at q
    obtain ⟨y, h1, h2⟩ := h.at_ j e q
    exact ⟨y, by rw [List.getElem?_set_ne hj]; exact h1, h2⟩
end
/-- the slots at a def's entry -/
def startD (n : Nat) (ds : List PyData) : Dn := ds.map some ++ List.replicate (n - ds.length) none

theorem rp_start {K : PySem.W.Frag} {H : Hp} {vs : List V} {ds : List PyData} (N : List Str) (r : RpAll K H vs ds) : EnvOk K H (startD N.length ds) (L2.start N vs) := by
  have hl := r.length
  refine ⟨?_, fun i d e => ?_⟩
  · unfold startD L2.start
    simp [hl]
  · unfold startD at e
    by_cases hi : i < ds.length
    · rw [List.getElem?_append_left (by simpa using hi), List.getElem?_map] at e
      cases q : ds[i]? with
      | none => rw [q] at e; cases e
      | some d' =>
        rw [q] at e
        cases e
        obtain ⟨v, h1, h2⟩ := r.get q
        refine ⟨v, ?_, h2⟩
        unfold L2.start
        rw [List.getElem?_append_left (by rw [List.length_map, hl]; exact hi), List.getElem?_map, h1]
        rfl
    · rw [List.getElem?_append_right (by simpa using hi)] at e
      rw [List.getElem?_replicate] at e
      split at e <;> cases e

/-! ### judgements -/
abbrev TD := Dn → (PyData → Prop) → Prop
abbrev TDT := Dn → (Bool → Prop) → Prop
abbrev TDA := Dn → (List PyData → Prop) → Prop
structure DE where
  nx : Dn → Prop
  rt : PyData → Prop
  bk : Dn → Prop := fun _ => False
  ct : Dn → Prop := fun _ => False
abbrev TDS := DE → Dn → Prop
structure DE.le (E E' : DE) : Prop where
  nx : ∀ δ, E.nx δ → E'.nx δ
  rt : ∀ d, E.rt d → E'.rt d
  bk : ∀ δ, E.bk δ → E'.bk δ
  ct : ∀ δ, E.ct δ → E'.ct δ
def MoE (t : TD) : Prop := ∀ δ (P P' : PyData → Prop), (∀ d, P d → P' d) → t δ P → t δ P'
def MoT (t : TDT) : Prop := ∀ δ (P P' : Bool → Prop), (∀ d, P d → P' d) → t δ P → t δ P'
def MoA (t : TDA) : Prop := ∀ δ (P P' : List PyData → Prop), (∀ d, P d → P' d) → t δ P → t δ P'
def MoS (t : TDS) : Prop := ∀ (E E' : DE) δ, E.le E' → t E δ → t E' δ
/-- what is wanted of the value and the heap, of the data -/
def wV (K : PySem.W.Frag) (H : Hp) (Q : VK) : PyData → Prop := fun d => ∀ v H', Same H H' → Rp K H' v d → Q v H'
def wB (H : Hp) (Q : Bool → Hp → Prop) : Bool → Prop := fun b => ∀ H', Same H H' → Q b H'
def wA (K : PySem.W.Frag) (H : Hp) (Q : List V → Hp → Prop) : List PyData → Prop := fun ds => ∀ vs H', Same H H' → RpAll K H' vs ds → Q vs H'
def wN (K : PySem.W.Frag) (H : Hp) (Q : L2.St → Hp → Prop) : Dn → Prop := fun δ => ∀ σ H', Same H H' → EnvOk K H' δ σ → Q σ H'
def wE (K : PySem.W.Frag) (H : Hp) (D : Ends) : DE := ⟨wN K H D.nx, wV K H D.rt, wN K H D.bk, wN K H D.ct⟩
def lE (K : PySem.W.Frag) (t : TD) : TE := fun σ H Q => ∃ δ, EnvOk K H δ σ ∧ t δ (wV K H Q)
def lT (K : PySem.W.Frag) (t : TDT) : TT := fun σ H Q => ∃ δ, EnvOk K H δ σ ∧ t δ (wB H Q)
def lA (K : PySem.W.Frag) (t : TDA) : TA := fun σ H Q => ∃ δ, EnvOk K H δ σ ∧ t δ (wA K H Q)
def lS (K : PySem.W.Frag) (t : TDS) : TS := fun D σ H => ∃ δ, EnvOk K H δ σ ∧ t (wE K H D) δ
structure PD (X : Cx) (e : Expr) (t : TD) : Prop where
  run : PE X e (lE X.K t)
  mo : MoE t
structure PDT (X : Cx) (e : Expr) (t : TDT) : Prop where
  run : PT X e (lT X.K t)
  mo : MoT t
structure PDW (X : Cx) (e : Expr) (t : TDT) : Prop where
  run : PW X e (lT X.K t)
  mo : MoT t
structure PDA (X : Cx) (es : List Expr) (t : TDA) : Prop where
  run : PA X es (lA X.K t)
  mo : MoA t
  len : ∀ δ (P : List PyData → Prop), t δ P → t δ fun ds => P ds ∧ ds.length = es.length
structure PDS (X : Cx) (st : Stmt) (t : TDS) : Prop where
  run : PS X st (lS X.K t)
  mo : MoS t
structure PDSs (X : Cx) (st : List Stmt) (t : TDS) : Prop where
  run : PSs X st (lS X.K t)
  mo : MoS t
section
variable {X : Cx} {e : Expr} {es : List Expr} {st : Stmt} {sts : List Stmt}
theorem PE.imp {t t' : TE} (h : PE X e t) (w : ∀ σ H Q, t' σ H Q → t σ H Q) : PE X e t' := ⟨fun pins s σ H Q I q => h.run pins s σ H Q I (w _ _ _ q)⟩
theorem PT.imp {t t' : TT} (h : PT X e t) (w : ∀ σ H Q, t' σ H Q → t σ H Q) : PT X e t' := ⟨fun pins s σ H Q I q => h.run pins s σ H Q I (w _ _ _ q)⟩
theorem PW.imp {t t' : TT} (h : PW X e t) (w : ∀ σ H Q, t' σ H Q → t σ H Q) : PW X e t' := ⟨fun wh pins s σ H Q I q => h.run wh pins s σ H Q I (w _ _ _ q)⟩
theorem PA.imp {t t' : TA} (h : PA X es t) (w : ∀ σ H Q, t' σ H Q → t σ H Q) : PA X es t' := ⟨fun pos pins s σ H Q I q => h.run pos pins s σ H Q I (w _ _ _ q)⟩
theorem PS.imp {t t' : TS} (h : PS X st t) (w : ∀ D σ H, t' D σ H → t D σ H) : PS X st t' := ⟨fun pins s σ H D I q => h.run pins s σ H D I (w _ _ _ q)⟩
theorem PSs.imp {t t' : TS} (h : PSs X sts t) (w : ∀ D σ H, t' D σ H → t D σ H) : PSs X sts t' := ⟨fun pins s σ H D I q => h.run pins s σ H D I (w _ _ _ q)⟩
end
section
variable {K : PySem.W.Frag} {H H' : Hp}
theorem wV.mono (s : Same H H') {Q : VK} {d : PyData} (h : wV K H Q d) : wV K H' Q d := fun v H2 s2 r => h v H2 (s.trans s2) r
theorem wB.mono (s : Same H H') {Q : Bool → Hp → Prop} {d : Bool} (h : wB H Q d) : wB H' Q d := fun H2 s2 => h H2 (s.trans s2)
theorem wA.mono (s : Same H H') {Q : List V → Hp → Prop} {d : List PyData} (h : wA K H Q d) : wA K H' Q d := fun v H2 s2 r => h v H2 (s.trans s2) r
theorem wN.mono (s : Same H H') {Q : L2.St → Hp → Prop} {d : Dn} (h : wN K H Q d) : wN K H' Q d := fun v H2 s2 r => h v H2 (s.trans s2) r
theorem wE.mono (s : Same H H') (D : Ends) : (wE K H D).le (wE K H' D) := ⟨fun _ h => wN.mono s h, fun _ h => wV.mono s h, fun _ h => wN.mono s h, fun _ h => wN.mono s h⟩
theorem wV.now {Q : VK} {d : PyData} {v : V} (h : wV K H Q d) (r : Rp K H v d) : Q v H := h v H (Same.refl H) r
theorem wV.at {Q : VK} {d : PyData} {v : V} (h : wV K H Q d) (s : Same H H') (r : Rp K H' v d) : Q v H' := h v H' s r
theorem DE.le.refl (E : DE) : E.le E := ⟨fun _ h => h, fun _ h => h, fun _ h => h, fun _ h => h⟩
end

/-! ### expressions -/
def dVar (i : Nat) : TD := fun δ Q => match δ[i]? with
  | some (some d) => Q d
  | _ => False
def dC (d : PyData) : TD := fun _ Q => Q d
def dNil : TDA := fun _ Q => Q []
def dCons (t : TD) (u : TDA) : TDA := fun δ Q => t δ fun d => u δ fun ds => Q (d :: ds)
def dOp (g : PyData → PyData → (PyData → Prop) → Prop) (ta tb : TD) : TD := fun δ Q => ta δ fun d => tb δ fun e => g d e Q
def dUn (g : PyData → (PyData → Prop) → Prop) (ta : TD) : TD := fun δ Q => ta δ fun d => g d Q
def MoG (g : PyData → PyData → (PyData → Prop) → Prop) : Prop := ∀ d e (P P' : PyData → Prop), (∀ z, P z → P' z) → g d e P → g d e P'
def MoU (g : PyData → (PyData → Prop) → Prop) : Prop := ∀ d (P P' : PyData → Prop), (∀ z, P z → P' z) → g d P → g d P'
def Lk2 (K : PySem.W.Frag) (r : R2) (g : PyData → PyData → (PyData → Prop) → Prop) : Prop := ∀ (H : Hp) (x y : V) (d e : PyData) (Q : VK), Rp K H x d → Rp K H y e → g d e (wV K H Q) → r x y H Q
def Lk1 (K : PySem.W.Frag) (r : V → Hp → VK → Prop) (g : PyData → (PyData → Prop) → Prop) : Prop := ∀ (H : Hp) (x : V) (d : PyData) (Q : VK), Rp K H x d → g d (wV K H Q) → r x H Q
section
variable {X : Cx} {a b e : Expr} {es : List Expr} {ta tb te : TD} {t : TDA} {pos : Pos}
theorem pd_var {i : Nat} {x : Str} (h : PE X (.Name x pos) (tVar i)) : PD X (.Name x pos) (dVar i) := by
  refine ⟨PE.imp h fun σ H Q ⟨δ, ok, q⟩ => ?_, fun δ P P' m h => ?_⟩
  · unfold dVar at q
    split at q
    · rename_i d e
      obtain ⟨v, h1, h2⟩ := ok.at_ _ _ e
      exact ⟨v, h1, q.now h2⟩
    · exact q.elim
  · unfold dVar at h ⊢
    split at h
    · exact m _ h
    · exact h.elim
theorem dv (i : Nat) {x : Str} (hN : X.N[i]? = some x := by rfl) (hv : Vis X.env.scope x := by first | exact Or.inl rfl | exact Or.inr (Or.inl rfl) | exact Or.inr (Or.inr rfl)) (hd : (x == ("__debug__" : Str)) = false := by decide)
    (hcd : (x == ("__classdict__" : Str)) = false := by decide) : PD X (.Name x pos) (dVar i) := pd_var (pe_var hN hv hd hcd)
theorem pd_c {d : PyData} {v : V} (h : PE X e (tC v)) (r : ∀ H, Rp X.K H v d) : PD X e (dC d) :=
  ⟨PE.imp h fun σ H Q ⟨δ, ok, q⟩ => wV.now q (r H), fun _ _ _ m h => m _ h⟩
theorem pd_int {i : Int} {j} : PD X (.Constant (.int i) j pos) (dC (.int i)) := pd_c pe_int fun _ => .int i
theorem pd_bl {i : Bool} {j} : PD X (.Constant (.bool i) j pos) (dC (.bool i)) := pd_c pe_bl fun _ => .bl i
theorem pd_str {i : Str} {j} : PD X (.Constant (.str i) j pos) (dC (.str i)) := pd_c pe_str fun _ => .str i
theorem pd_non {j} : PD X (.Constant .none j pos) (dC .none) := pd_c pe_non fun _ => .non
theorem pda_nil : PDA X [] dNil := ⟨PA.imp pa_nil fun σ H Q ⟨δ, ok, q⟩ => q [] H (Same.refl H) .nil, fun _ _ _ m h => m _ h, fun _ _ h => ⟨h, rfl⟩⟩
theorem pda_cons (ha : PD X e te) (hr : PDA X es t) (hs : starEach (e :: es) X.env = (false, eval e X.env) :: starEach es X.env := by rfl) : PDA X (e :: es) (dCons te t) := by
  refine ⟨PA.imp (pa_cons ha.run hr.run hs) fun σ H Q ⟨δ, ok, q⟩ => ?_, fun δ P P' m h => ?_, fun δ P h => ha.mo δ _ _ (fun d hd => hr.mo δ _ _ (fun ds hp => ⟨hp.1, by rw [List.length_cons, List.length_cons, hp.2]⟩) (hr.len δ _ hd)) h⟩
  · refine ⟨δ, ok, ha.mo δ _ _ (fun d hd v H1 s1 r1 => ?_) q⟩
    refine ⟨δ, ok.mono s1, hr.mo δ _ _ (fun ds hp vs H2 s2 r2 => ?_) hd⟩
    exact hp (v :: vs) H2 (s1.trans s2) (.cons (r1.mono s2) r2)
  · exact ha.mo δ _ _ (fun d hd => hr.mo δ _ _ (fun ds hp => m _ hp) hd) h
/-- two places, by values -/
theorem bin_lift {r : R2} {g : PyData → PyData → (PyData → Prop) → Prop} (lk : Lk2 X.K r g) (mg : MoG g) (ma : MoE ta) (mb : MoE tb) (σ : L2.St) (H : Hp) (Q : VK) (h : lE X.K (dOp g ta tb) σ H Q) : tOp r (lE X.K ta) (lE X.K tb) σ H Q := by
  obtain ⟨δ, ok, q⟩ := h
  refine ⟨δ, ok, ma δ _ _ (fun d hd x H1 s1 r1 => ?_) q⟩
  refine ⟨δ, ok.mono s1, mb δ _ _ (fun e he y H2 s2 r2 => ?_) hd⟩
  exact lk H2 x y d e Q (r1.mono s2) r2 (mg _ _ _ _ (fun z hz => hz.mono (s1.trans s2)) he)
theorem dOp_mo {g : PyData → PyData → (PyData → Prop) → Prop} (mg : MoG g) (ma : MoE ta) (mb : MoE tb) : MoE (dOp g ta tb) := fun δ P P' m h => ma δ _ _ (fun d hd => mb δ _ _ (fun e he => mg _ _ _ _ m he) hd) h
theorem dUn_mo {g : PyData → (PyData → Prop) → Prop} (mg : MoU g) (ma : MoE ta) : MoE (dUn g ta) := fun δ P P' m h => ma δ _ _ (fun d hd => mg _ _ _ m hd) h
theorem pd_op {op : Operator} {r : R2} {g : PyData → PyData → (PyData → Prop) → Prop} (ho : OpR X (binaryOp op) r) (lk : Lk2 X.K r g) (mg : MoG g) (ha : PD X a ta) (hb : PD X b tb) : PD X (.BinOp a op b pos) (dOp g ta tb) :=
  ⟨PE.imp (pe_op ho ha.run hb.run) (bin_lift lk mg ha.mo hb.mo), dOp_mo mg ha.mo hb.mo⟩
theorem pd_un {op : UnaryOp} {r : V → Hp → VK → Prop} {g : PyData → (PyData → Prop) → Prop} (ho : UnR X (unaryOp op) r) (lk : Lk1 X.K r g) (mg : MoU g) (ha : PD X a ta) : PD X (.UnaryOp op a pos) (dUn g ta) :=
  ⟨PE.imp (pe_un ho ha.run) fun σ H Q ⟨δ, ok, q⟩ => ⟨δ, ok, ha.mo δ _ _ (fun d hd x H1 s1 r1 => lk H1 x d Q r1 (mg _ _ _ (fun z hz => hz.mono s1) hd)) q⟩, dUn_mo mg ha.mo⟩
theorem pd_ix {r : R2} {g : PyData → PyData → (PyData → Prop) → Prop} (hr : IxR X r) (lk : Lk2 X.K r g) (mg : MoG g) (ha : PD X a ta) (hb : PD X b tb) (hs : PlainIx b := by exact fun _ _ => rfl) : PD X (.Subscript a b pos) (dOp g ta tb) :=
  ⟨PE.imp (pe_ix hr ha.run hb.run hs) (bin_lift lk mg ha.mo hb.mo), dOp_mo mg ha.mo hb.mo⟩
end
end Mb
set_option Elab.async false
set_option linter.all false
set_option maxRecDepth 100000
set_option maxHeartbeats 4000000
namespace Mb
open PySem PySem.Spec PyProof.Rows L2
/-! ### comparisons, tests -/
abbrev GB := PyData → PyData → (Bool → Prop) → Prop
def MoB (g : GB) : Prop := ∀ d e (P P' : Bool → Prop), (∀ z, P z → P' z) → g d e P → g d e P'
def LkB (K : PySem.W.Frag) (r : R2) (g : GB) : Prop := ∀ (H : Hp) (x y : V) (d e : PyData) (Q : VK), Rp K H x d → Rp K H y e → g d e (fun b => Q (.bl b) H) → r x y H Q
def dCmpT (g : GB) (ta tb : TD) : TDT := fun δ Q => ta δ fun d => tb δ fun e => g d e Q
def dCmpV (g : GB) (ta tb : TD) : TD := fun δ Q => ta δ fun d => tb δ fun e => g d e fun b => Q (.bool b)
def dVal (t : TD) : TDT := fun δ Q => t δ fun d => match d with
  | .bool b => Q b
  | _ => False
def dAnd (t u : TDT) : TDT := fun δ Q => t δ fun b => if b = true then u δ Q else Q false
def dOr (t u : TDT) : TDT := fun δ Q => t δ fun b => if b = true then Q true else u δ Q
def dNot (t : TDT) : TDT := fun δ Q => t δ fun b => Q (!b)
def boolK (d : PyData) (k : Bool → Prop) : Prop := match d with
  | .bool b => k b
  | _ => False
theorem boolK_mo {d : PyData} {k k' : Bool → Prop} (h : ∀ b, k b → k' b) (q : boolK d k) : boolK d k' := by
  unfold boolK at q ⊢
  split at q
  · exact h _ q
  · exact q.elim
def dAndV (ta tb : TD) : TD := fun δ Q => ta δ fun d => boolK d fun b => if b = true then tb δ Q else Q (.bool false)
def dOrV (ta tb : TD) : TD := fun δ Q => ta δ fun d => boolK d fun b => if b = true then Q (.bool true) else tb δ Q
def dNotV (ta : TD) : TD := fun δ Q => ta δ fun d => boolK d fun b => Q (.bool (!b))
section
variable {X : Cx} {a b e : Expr} {es rest : List Expr} {ta tb te : TD} {tA tB : TDT} {pos : Pos}
theorem dCmpT_mo {g : GB} (mg : MoB g) (ma : MoE ta) (mb : MoE tb) : MoT (dCmpT g ta tb) := fun δ P P' m h => ma δ _ _ (fun d hd => mb δ _ _ (fun e he => mg _ _ _ _ m he) hd) h
theorem dCmpV_mo {g : GB} (mg : MoB g) (ma : MoE ta) (mb : MoE tb) : MoE (dCmpV g ta tb) := fun δ P P' m h => ma δ _ _ (fun d hd => mb δ _ _ (fun e he => mg _ _ _ _ (fun z hz => m _ hz) he) hd) h
theorem pd_cmp {op : CmpOp} {r : R2} {g : GB} (ho : OpR X (compareOp op) r) (lk : LkB X.K r g) (mg : MoB g) (ha : PD X a ta) (hb : PD X b tb) (hm : behindInMarks op b = false) : PD X (.Compare a [op] [b] pos) (dCmpV g ta tb) := by
  refine ⟨PE.imp (pe_cmpR ho ha.run hb.run hm) fun σ H Q ⟨δ, ok, q⟩ => ?_, dCmpV_mo mg ha.mo hb.mo⟩
  refine ⟨δ, ok, ha.mo δ _ _ (fun d hd x H1 s1 r1 => ?_) q⟩
  refine ⟨δ, ok.mono s1, hb.mo δ _ _ (fun e he y H2 s2 r2 => ?_) hd⟩
  exact lk H2 x y d e Q (r1.mono s2) r2 (mg _ _ _ _ (fun z hz => (hz.mono (s1.trans s2)).now (.bl z)) he)
theorem ptd_cmp {op : CmpOp} {r : R2} {g : GB} (ho : OpR X (compareOp op) r) (lk : LkB X.K r g) (mg : MoB g) (ha : PD X a ta) (hb : PD X b tb) (hm : behindInMarks op b = false) : PDT X (.Compare a [op] [b] pos) (dCmpT g ta tb) := by
  refine ⟨PT.imp (pt_cmpR ho ha.run hb.run hm) fun σ H Q ⟨δ, ok, q⟩ => ?_, dCmpT_mo mg ha.mo hb.mo⟩
  refine ⟨δ, ok, ha.mo δ _ _ (fun d hd x H1 s1 r1 => ?_) q⟩
  refine ⟨δ, ok.mono s1, hb.mo δ _ _ (fun e he y H2 s2 r2 => ?_) hd⟩
  exact lk H2 x y d e _ (r1.mono s2) r2 (mg _ _ _ _ (fun z hz => ⟨z, rfl, hz H2 (s1.trans s2)⟩) he)
theorem dVal_mo (ma : MoE ta) : MoT (dVal ta) := fun δ P P' m h => ma δ _ _ (fun d hd => by
  cases d <;> first | exact hd.elim | exact m _ hd) h
theorem ptd_val (h : PD X e te) (he : ∀ whole, isTrue e X.env whole = (do let v ← whole; standAt e.pos; holding [v] (truthy v)) := by intro _; rfl) : PDT X e (dVal te) := by
  refine ⟨PT.imp (pt_val h.run he) fun σ H Q ⟨δ, ok, q⟩ => ?_, dVal_mo h.mo⟩
  refine ⟨δ, ok, h.mo δ _ _ (fun d hd x H1 s1 r1 => ?_) q⟩
  cases d <;> first | exact hd.elim | exact ⟨_, r1.bl_inv, hd H1 s1⟩
theorem dAnd_mo (ma : MoT tA) (mb : MoT tB) : MoT (dAnd tA tB) := fun δ P P' m h => ma δ _ _ (fun c hc => by
  cases c with
  | true => exact iteT (mb δ _ _ m (by simpa using hc))
  | false => exact iteF (m _ (by simpa using hc))) h
theorem dOr_mo (ma : MoT tA) (mb : MoT tB) : MoT (dOr tA tB) := fun δ P P' m h => ma δ _ _ (fun c hc => by
  cases c with
  | true => exact iteT (m _ (by simpa using hc))
  | false => exact iteF (mb δ _ _ m (by simpa using hc))) h
theorem dNot_mo (ma : MoT tA) : MoT (dNot tA) := fun δ P P' m h => ma δ _ _ (fun c hc => m _ hc) h
theorem PDW.pt (h : PDW X e tA) : PDT X e tA := ⟨h.run.pt, h.mo⟩
theorem pdw_and1 (ha : PDT X a tA) : PDW X (.BoolOp .And [a] pos) tA := ⟨pw_and1 ha.run, ha.mo⟩
theorem pdw_or1 (ha : PDT X a tA) : PDW X (.BoolOp .Or [a] pos) tA := ⟨pw_or1 ha.run, ha.mo⟩
theorem pdw_and (ha : PDT X a tA) (hb : PDW X (.BoolOp .And (b :: rest) pos) tB) : PDW X (.BoolOp .And (a :: b :: rest) pos) (dAnd tA tB) := by
  refine ⟨PW.imp (pw_and ha.run hb.run) fun σ H Q ⟨δ, ok, q⟩ => ?_, dAnd_mo ha.mo hb.mo⟩
  refine ⟨δ, ok, ha.mo δ _ _ (fun c hc H1 s1 => ?_) q⟩
  cases c with
  | true => exact iteT ⟨δ, ok.mono s1, hb.mo δ _ _ (fun z hz => wB.mono s1 hz) (by simpa using hc)⟩
  | false => exact iteF ((show wB H Q false by simpa using hc) H1 s1)
theorem pdw_or (ha : PDT X a tA) (hb : PDW X (.BoolOp .Or (b :: rest) pos) tB) : PDW X (.BoolOp .Or (a :: b :: rest) pos) (dOr tA tB) := by
  refine ⟨PW.imp (pw_or ha.run hb.run) fun σ H Q ⟨δ, ok, q⟩ => ?_, dOr_mo ha.mo hb.mo⟩
  refine ⟨δ, ok, ha.mo δ _ _ (fun c hc H1 s1 => ?_) q⟩
  cases c with
  | true => exact iteT ((show wB H Q true by simpa using hc) H1 s1)
  | false => exact iteF ⟨δ, ok.mono s1, hb.mo δ _ _ (fun z hz => wB.mono s1 hz) (by simpa using hc)⟩
theorem ptd_not (ha : PDT X a tA) : PDT X (.UnaryOp .Not a pos) (dNot tA) :=
  ⟨PT.imp (pt_not ha.run) fun σ H Q ⟨δ, ok, q⟩ => ⟨δ, ok, ha.mo δ _ _ (fun c hc H1 s1 => hc H1 s1) q⟩, dNot_mo ha.mo⟩
theorem pd_one {op} (h : PD X a ta) : PD X (.BoolOp op [a] pos) ta := ⟨pe_one h.run, h.mo⟩
theorem pd_and (ha : PD X a ta) (hb : PD X (.BoolOp .And (b :: rest) pos) tb) : PD X (.BoolOp .And (a :: b :: rest) pos) (dAndV ta tb) := by
  refine ⟨PE.imp (pe_and ha.run hb.run) fun σ H Q ⟨δ, ok, q⟩ => ?_, fun δ P P' m h => ha.mo δ _ _ (fun d hd => boolK_mo (fun c hc => ?_) hd) h⟩
  · refine ⟨δ, ok, ha.mo δ _ _ (fun d hd x H1 s1 r1 => ?_) q⟩
    cases d with
    | bool c =>
      refine ⟨c, r1.bl_inv, ?_⟩
      have hd : (if c = true then tb δ (wV X.K H Q) else wV X.K H Q (.bool false)) := hd
      cases c with
      | true => exact iteT ⟨δ, ok.mono s1, hb.mo δ _ _ (fun z hz => wV.mono s1 hz) (by simpa using hd)⟩
      | false => exact iteF ((show wV X.K H Q (.bool false) by simpa using hd).at s1 (.bl false))
    | _ => exact hd.elim
  · cases c with
    | true => exact iteT (hb.mo δ _ _ m (by simpa using hc))
    | false => exact iteF (m _ (by simpa using hc))
theorem pd_or (ha : PD X a ta) (hb : PD X (.BoolOp .Or (b :: rest) pos) tb) : PD X (.BoolOp .Or (a :: b :: rest) pos) (dOrV ta tb) := by
  refine ⟨PE.imp (pe_or ha.run hb.run) fun σ H Q ⟨δ, ok, q⟩ => ?_, fun δ P P' m h => ha.mo δ _ _ (fun d hd => boolK_mo (fun c hc => ?_) hd) h⟩
  · refine ⟨δ, ok, ha.mo δ _ _ (fun d hd x H1 s1 r1 => ?_) q⟩
    cases d with
    | bool c =>
      refine ⟨c, r1.bl_inv, ?_⟩
      have hd : (if c = true then wV X.K H Q (.bool true) else tb δ (wV X.K H Q)) := hd
      cases c with
      | true => exact iteT ((show wV X.K H Q (.bool true) by simpa using hd).at s1 (.bl true))
      | false => exact iteF ⟨δ, ok.mono s1, hb.mo δ _ _ (fun z hz => wV.mono s1 hz) (by simpa using hd)⟩
    | _ => exact hd.elim
  · cases c with
    | true => exact iteT (m _ (by simpa using hc))
    | false => exact iteF (hb.mo δ _ _ m (by simpa using hc))
theorem pd_not (ha : PD X a ta) : PD X (.UnaryOp .Not a pos) (dNotV ta) := by
  refine ⟨PE.imp (pe_not ha.run) fun σ H Q ⟨δ, ok, q⟩ => ?_, fun δ P P' m h => ha.mo δ _ _ (fun d hd => boolK_mo (fun c hc => m _ hc) hd) h⟩
  refine ⟨δ, ok, ha.mo δ _ _ (fun d hd x H1 s1 r1 => ?_) q⟩
  cases d with
  | bool c => exact ⟨c, r1.bl_inv, wV.at (show wV X.K H Q (.bool (!c)) from hd) s1 (.bl _)⟩
  | _ => exact hd.elim
end
/-! ### operators on data -/
def gAdd : PyData → PyData → (PyData → Prop) → Prop
  | .int i, .int j, Q => Q (.int (i + j))
  | _, _, _ => False
def gSub : PyData → PyData → (PyData → Prop) → Prop
  | .int i, .int j, Q => Q (.int (i - j))
  | _, _, _ => False
def gMul : PyData → PyData → (PyData → Prop) → Prop
  | .int i, .int j, Q => CMulW i j ∧ Q (.int (i * j))
  | _, _, _ => False
/-- what // takes: no division by way of a library's own module -/
def CDivX (i j : Int) : Prop := j ≠ 0 ∧ i.natAbs.log2 < 13500
def gFdiv : PyData → PyData → (PyData → Prop) → Prop
  | .int i, .int j, Q => CDivX i j ∧ Q (.int (i.fdiv j))
  | _, _, _ => False
def gMod : PyData → PyData → (PyData → Prop) → Prop
  | .int i, .int j, Q => j ≠ 0 ∧ Q (.int (i.fmod j))
  | _, _, _ => False
/-- what ** takes -/
def CPowX (i j : Int) : Prop := 0 ≤ j ∧ j ≤ 1000 ∧ i.natAbs.log2 < 100000
def gPow : PyData → PyData → (PyData → Prop) → Prop
  | .int i, .int j, Q => CPowX i j ∧ Q (.int (i ^ j.toNat))
  | _, _, _ => False
def gNeg : PyData → (PyData → Prop) → Prop
  | .int i, Q => Q (.int (-i))
  | _, _ => False
/-- two tuples, both not empty -/
def gCatT : PyData → PyData → (PyData → Prop) → Prop
  | .tuple xs, .tuple ys, Q => (xs ≠ [] ∧ ys ≠ [] ∧ xs.length + ys.length ≤ 1000) ∧ Q (.tuple (xs ++ ys))
  | _, _, _ => False
def gCatL : PyData → PyData → (PyData → Prop) → Prop
  | .list xs, .list ys, Q => xs.length + ys.length ≤ 1000 ∧ Q (.list (xs ++ ys))
  | _, _, _ => False
def optK (o : Option PyData) (P : PyData → Prop) : Prop := match o with
  | some d => P d
  | none => False
/-- o[i], o a tuple or a list -/
def gIx : PyData → PyData → (PyData → Prop) → Prop
  | .tuple xs, .int i, Q => optK (atI xs i) Q
  | .list xs, .int i, Q => optK (atI xs i) Q
  | _, _, _ => False
theorem mo_of {g : PyData → PyData → (PyData → Prop) → Prop} (h : ∀ d e (P P' : PyData → Prop), (∀ z, P z → P' z) → g d e P → g d e P') : MoG g := h
theorem gAdd_mo : MoG gAdd := fun d e P P' m h => by cases d <;> first | exact h.elim | (cases e <;> first | exact h.elim | exact m _ h)
theorem gSub_mo : MoG gSub := fun d e P P' m h => by cases d <;> first | exact h.elim | (cases e <;> first | exact h.elim | exact m _ h)
theorem gMul_mo : MoG gMul := fun d e P P' m h => by cases d <;> first | exact h.elim | (cases e <;> first | exact h.elim | exact ⟨h.1, m _ h.2⟩)
theorem gFdiv_mo : MoG gFdiv := fun d e P P' m h => by cases d <;> first | exact h.elim | (cases e <;> first | exact h.elim | exact ⟨h.1, m _ h.2⟩)
theorem gMod_mo : MoG gMod := fun d e P P' m h => by cases d <;> first | exact h.elim | (cases e <;> first | exact h.elim | exact ⟨h.1, m _ h.2⟩)
theorem gPow_mo : MoG gPow := fun d e P P' m h => by cases d <;> first | exact h.elim | (cases e <;> first | exact h.elim | exact ⟨h.1, m _ h.2⟩)
theorem gNeg_mo : MoU gNeg := fun d P P' m h => by cases d <;> first | exact h.elim | exact m _ h
theorem gCatT_mo : MoG gCatT := fun d e P P' m h => by cases d <;> first | exact h.elim | (cases e <;> first | exact h.elim | exact ⟨h.1, m _ h.2⟩)
theorem gCatL_mo : MoG gCatL := fun d e P P' m h => by cases d <;> first | exact h.elim | (cases e <;> first | exact h.elim | exact ⟨h.1, m _ h.2⟩)
theorem optK_mo {o : Option PyData} {P P' : PyData → Prop} (m : ∀ z, P z → P' z) (h : optK o P) : optK o P' := by
  cases o with
  | none => exact h
  | some d => exact m _ h
theorem gIx_mo : MoG gIx := fun d e P P' m h => by
  cases d <;> first
    | exact h.elim
    | (cases e <;> first
      | exact h.elim
      | exact optK_mo m h)
section
variable {X : Cx} {K : PySem.W.Frag}
theorem lk_rI0 {g : PyData → PyData → (PyData → Prop) → Prop} {f : Int → Int → Int} (hg : ∀ d e Q, g d e Q → ∃ i j, d = .int i ∧ e = .int j ∧ Q (.int (f i j))) : Lk2 K (rI0 fun i j => .int (f i j)) g := by
  intro H x y d e Q r1 r2 h
  obtain ⟨i, j, rfl, rfl, q⟩ := hg _ _ _ h
  exact ⟨i, j, r1.int_inv, r2.int_inv, q.now (.int _)⟩
theorem lk_rI {g : PyData → PyData → (PyData → Prop) → Prop} {C : Int → Int → Prop} {f : Int → Int → Int} (hg : ∀ d e Q, g d e Q → ∃ i j, d = .int i ∧ e = .int j ∧ C i j ∧ Q (.int (f i j))) : Lk2 K (rI C fun i j => .int (f i j)) g := by
  intro H x y d e Q r1 r2 h
  obtain ⟨i, j, rfl, rfl, c, q⟩ := hg _ _ _ h
  exact ⟨i, j, r1.int_inv, r2.int_inv, c, q.now (.int _)⟩
theorem lk_add : Lk2 K (rI0 fun i j => .int (i + j)) gAdd := lk_rI0 fun d e Q h => by cases d <;> first | exact h.elim | (cases e <;> first | exact h.elim | exact ⟨_, _, rfl, rfl, h⟩)
theorem lk_sub : Lk2 K (rI0 fun i j => .int (i - j)) gSub := lk_rI0 fun d e Q h => by cases d <;> first | exact h.elim | (cases e <;> first | exact h.elim | exact ⟨_, _, rfl, rfl, h⟩)
theorem lk_mul : Lk2 K (rI CMulW fun i j => .int (i * j)) gMul := lk_rI fun d e Q h => by cases d <;> first | exact h.elim | (cases e <;> first | exact h.elim | exact ⟨_, _, rfl, rfl, h⟩)
theorem noPylongX {i j : Int} (h : i.natAbs.log2 < 13500) : Builtin.divisionGoesByPylong i j = false := by
  have key : ∀ a b : Nat, a ≤ 450 → (decide (b > 300) && decide (a > b + 150)) = false := fun a b ha => by
    rw [Bool.and_eq_false_iff]
    by_cases hb : b > 300
    · exact .inr (decide_eq_false (by omega))
    · exact .inl (decide_eq_false hb)
  refine key (if (i == 0) = true then 0 else i.natAbs.log2 / 30 + 1) (if (j == 0) = true then 0 else j.natAbs.log2 / 30 + 1) ?_
  split <;> omega
theorem op_fdivX : OpR X (binaryOp .FloorDiv) (rI CDivX fun i j => .int (i.fdiv j)) := opI fun _ _ _ _ _ _ _ hc q => floordiv_int hc.1 q (.inl (noPylongX hc.2))
theorem lk_fdiv : Lk2 K (rI CDivX fun i j => .int (i.fdiv j)) gFdiv := lk_rI fun d e Q h => by cases d <;> first | exact h.elim | (cases e <;> first | exact h.elim | exact ⟨_, _, rfl, rfl, h⟩)
theorem lk_mod : Lk2 K (rI (fun _ j => j ≠ 0) fun i j => .int (i.fmod j)) gMod := lk_rI fun d e Q h => by cases d <;> first | exact h.elim | (cases e <;> first | exact h.elim | exact ⟨_, _, rfl, rfl, h⟩)
theorem CPowX.ok {i j : Int} (h : CPowX i j) : (Builtin.Int.intBits i : Int) * j ≤ 2 ^ 27 := by
  have b : (Builtin.Int.intBits i : Int) ≤ 100000 := by
    have h3 := h.2.2
    unfold Builtin.Int.intBits
    split <;> omega
  have h1 : (Builtin.Int.intBits i : Int) * j ≤ 100000 * j := Int.mul_le_mul_of_nonneg_right b h.1
  have h2 := h.2.1
  omega
theorem op_powX : OpR X (binaryOp .Pow) (rI CPowX fun i j => .int (i ^ j.toNat)) := opI fun _ _ _ _ _ _ _ hc q => pow_int hc.1 hc.ok q
theorem lk_pow : Lk2 K (rI CPowX fun i j => .int (i ^ j.toNat)) gPow := lk_rI fun d e Q h => by cases d <;> first | exact h.elim | (cases e <;> first | exact h.elim | exact ⟨_, _, rfl, rfl, h⟩)
theorem lk_neg : Lk1 K (rU fun i => .int (-i)) gNeg := fun H x d Q r h => by
  cases d <;> first | exact h.elim | exact ⟨_, r.int_inv, wV.now h (.int _)⟩
theorem le_line {n : Nat} (h : n ≤ 1000) : n ≤ sizeLine := Nat.le_of_lt (small1000 h)
theorem lk_catT : Lk2 K (rCatT K) gCatT := fun H x y d e Q r1 r2 h => by
  cases d <;> first
    | exact h.elim
    | (cases e <;> first
      | exact h.elim
      | (obtain ⟨⟨h1, h2, h3⟩, q⟩ := h
         obtain ⟨a, xs, rfl, sa, ra⟩ := r1.tup_inv
         obtain ⟨b, ys, rfl, sb, rb⟩ := r2.tup_inv
         refine ⟨a, b, xs, ys, rfl, rfl, sa, sb, ?_, ?_, ?_⟩
         · intro z; subst z; exact h1 (List.eq_nil_of_length_eq_zero ra.length.symm)
         · rw [ra.length, rb.length]; exact le_line h3
         · have ny : ys ≠ [] := by intro z; subst z; exact h2 (List.eq_nil_of_length_eq_zero rb.length.symm)
           refine ⟨fun z => absurd z ny, fun _ p hp => ?_⟩
           exact q.at (same_upd hp) (.tup (SqT.of upd_same) ((ra.append rb).mono (same_upd hp)))))
end
end Mb
set_option Elab.async false
set_option linter.all false
set_option maxRecDepth 100000
set_option maxHeartbeats 4000000
namespace Mb
open PySem PySem.Spec PyProof.Rows L2
/-! ### subscripts, slices, displays -/
theorem atI_rel {K : PySem.W.Frag} {H : Hp} {xs : List V} {ds : List PyData} (r : RpAll K H xs ds) {i : Int} {d : PyData} (h : atI ds i = some d) : ∃ v, atI xs i = some v ∧ Rp K H v d := by
  unfold atI at h ⊢
  rw [← r.length] at h
  cases e : ixN xs.length i with
  | none => rw [e] at h; cases h
  | some j =>
    rw [e] at h
    exact r.get h
def rIxTL (K : PySem.W.Frag) : R2 := fun x y H Q => rIxT K x y H Q ∨ rIxL K x y H Q
theorem ix_tl {X : Cx} : IxR X (rIxTL X.K) := ix_tup.or ix_list
theorem optK_some {o : Option PyData} {P : PyData → Prop} (h : optK o P) : ∃ d, o = some d ∧ P d := by
  cases o with
  | none => exact h.elim
  | some d => exact ⟨d, rfl, h⟩
theorem lk_ix {K : PySem.W.Frag} : Lk2 K (rIxTL K) gIx := fun H x y d e Q r1 r2 h => by
  cases d <;> first
    | exact h.elim
    | (cases e <;> first
      | exact h.elim
      | (obtain ⟨z, hz, q⟩ := optK_some h
         obtain ⟨a, xs, rfl, sa, ra⟩ := r1.tup_inv
         obtain ⟨v, hv, rv⟩ := atI_rel ra hz
         exact .inl ⟨a, xs, _, v, rfl, r2.int_inv, sa, hv, wV.now q rv⟩)
      | (obtain ⟨z, hz, q⟩ := optK_some h
         obtain ⟨a, xs, rfl, sa, ra⟩ := r1.lst_inv
         obtain ⟨v, hv, rv⟩ := atI_rel ra hz
         exact .inr ⟨a, xs, _, v, rfl, r2.int_inv, SqL.of sa, hv, wV.now q rv⟩))
/-- s[i] of a text -/
def gIxS : PyData → PyData → (PyData → Prop) → Prop
  | .str z, .int i, Q => ∃ c, (z.length ≤ sizeLine ∧ atI z.cps.toList i = some c) ∧ Q (.str ⟨#[c]⟩)
  | _, _, _ => False
theorem gIxS_mo : MoG gIxS := fun d e P P' m h => by cases d <;> first | exact h.elim | (cases e <;> first | exact h.elim | exact let ⟨c, h1, h2⟩ := h; ⟨c, h1, m _ h2⟩)
theorem lk_ixS {K : PySem.W.Frag} : Lk2 K rIxS gIxS := fun H x y d e Q r1 r2 h => by
  cases d <;> first
    | exact h.elim
    | (cases e <;> first
      | exact h.elim
      | (obtain ⟨c, h1, q⟩ := h
         exact ⟨_, _, c, r1.str_inv, r2.int_inv, h1.1, h1.2, wV.now q (.str _)⟩))
/-- d[k], d a dict of text keys -/
def gDGet : PyData → PyData → (PyData → Prop) → Prop
  | .dict ds, .str k, Q => optK (dGetK ds k) Q
  | _, _, _ => False
theorem gDGet_mo : MoG gDGet := fun d e P P' m h => by cases d <;> first | exact h.elim | (cases e <;> first | exact h.elim | exact optK_mo m h)
def gDIn : GB
  | .str k, .dict ds, Q => Q (dGetK ds k).isSome
  | _, _, _ => False
def gDNotIn : GB
  | .str k, .dict ds, Q => Q (!(dGetK ds k).isSome)
  | _, _, _ => False
theorem gDIn_mo : MoB gDIn := fun d e P P' m h => by cases d <;> first | exact h.elim | (cases e <;> first | exact h.elim | exact m _ h)
theorem gDNotIn_mo : MoB gDNotIn := fun d e P P' m h => by cases d <;> first | exact h.elim | (cases e <;> first | exact h.elim | exact m _ h)
section
variable {X : Cx} {a b e o i : Expr} {es : List Expr} {ta tb te td ti : TD} {t : TDA} {pos : Pos}
theorem pd_dget (hu : X.A.units + 1 < cLine) (ho : PD X o td) (hi : PD X i ti) (hs : NoSl i := by exact fun _ _ => rfl) : PD X (.Subscript o i pos) (dOp gDGet td ti) := by
  refine ⟨PE.imp (pe_dget hu ho.run hi.run hs) fun σ H Q ⟨δ, ok, q⟩ => ?_, dOp_mo gDGet_mo ho.mo hi.mo⟩
  refine ⟨δ, ok, ho.mo δ _ _ (fun d hd x H1 s1 r1 => ?_) q⟩
  refine ⟨δ, ok.mono s1, hi.mo δ _ _ (fun e he y H2 s2 r2 => ?_) hd⟩
  cases d <;> first
    | exact he.elim
    | (cases e <;> first
      | exact he.elim
      | (obtain ⟨z, hz, q⟩ := optK_some he
         obtain ⟨a, kvs, rfl, sa, ra⟩ := (r1.mono s2).dic_inv
         have q2 := r2.str_inv
         subst q2
         rcases ra.get with ⟨_, h2⟩ | ⟨v, d', h1, h2, h3⟩
         · rw [h2] at hz; cases hz
         · rw [h2] at hz; cases hz
           refine ⟨a, v, rfl, ?_, wV.at q (s1.trans s2) h3⟩
           rw [← h1]
           exact DGet.k (k := Sum.inr _) sa))
theorem din_lift {ti td : TD} (mi : MoE ti) (md : MoE td) (σ : L2.St) (H : Hp) (Q : VK) (δ : Dn) (ok : EnvOk X.K H δ σ) (q : ti δ fun d => td δ fun e => gDIn d e fun b => ∀ H2, Same H H2 → Q (.bl b) H2) : tDIn (lE X.K ti) (lE X.K td) σ H Q := by
  refine ⟨δ, ok, mi δ _ _ (fun d hd x H1 s1 r1 => ?_) q⟩
  refine ⟨δ, ok.mono s1, md δ _ _ (fun e he y H2 s2 r2 => ?_) hd⟩
  cases d <;> first
    | exact he.elim
    | (cases e <;> first
      | exact he.elim
      | (obtain ⟨a, kvs, rfl, sa, ra⟩ := r2.dic_inv
         have q2 := r1.str_inv
         subst q2
         refine ⟨a, _, rfl, DGet.k (k := Sum.inr _) sa, ?_⟩
         rcases ra.get with ⟨h1, h2⟩ | ⟨v, d', h1, h2, h3⟩
         · rw [h1]; rw [gDIn, h2] at he; exact he H2 (s1.trans s2)
         · rw [h1]; rw [gDIn, h2] at he; exact he H2 (s1.trans s2)))
theorem dnin_lift {ti td : TD} (mi : MoE ti) (md : MoE td) (σ : L2.St) (H : Hp) (Q : VK) (δ : Dn) (ok : EnvOk X.K H δ σ) (q : ti δ fun d => td δ fun e => gDNotIn d e fun b => ∀ H2, Same H H2 → Q (.bl b) H2) : tDNotIn (lE X.K ti) (lE X.K td) σ H Q := by
  refine ⟨δ, ok, mi δ _ _ (fun d hd x H1 s1 r1 => ?_) q⟩
  refine ⟨δ, ok.mono s1, md δ _ _ (fun e he y H2 s2 r2 => ?_) hd⟩
  cases d <;> first
    | exact he.elim
    | (cases e <;> first
      | exact he.elim
      | (obtain ⟨a, kvs, rfl, sa, ra⟩ := r2.dic_inv
         have q2 := r1.str_inv
         subst q2
         refine ⟨a, _, rfl, DGet.k (k := Sum.inr _) sa, ?_⟩
         rcases ra.get with ⟨h1, h2⟩ | ⟨v, d', h1, h2, h3⟩
         · rw [h1]; rw [gDNotIn, h2] at he; exact he H2 (s1.trans s2)
         · rw [h1]; rw [gDNotIn, h2] at he; exact he H2 (s1.trans s2)))
theorem ptd_din (hu : X.A.units + 1 < cLine) (hi : PD X i ti) (ho : PD X o td) (h1 : behindInMarks .In o = false := by rfl) : PDT X (.Compare i [.In] [o] pos) (dCmpT gDIn ti td) := by
  refine ⟨PT.imp (pt_cmp (pc_din hu hi.run ho.run) h1) fun σ H Q ⟨δ, ok, q⟩ => ?_, dCmpT_mo gDIn_mo hi.mo ho.mo⟩
  exact din_lift hi.mo ho.mo σ H _ δ ok (hi.mo δ _ _ (fun d hd => ho.mo δ _ _ (fun e he => gDIn_mo _ _ _ _ (fun z hz H2 s2 => ⟨z, rfl, hz H2 s2⟩) he) hd) q)
theorem ptd_dnin (hu : X.A.units + 1 < cLine) (hi : PD X i ti) (ho : PD X o td) (h1 : behindInMarks .NotIn o = false := by rfl) : PDT X (.Compare i [.NotIn] [o] pos) (dCmpT gDNotIn ti td) := by
  refine ⟨PT.imp (pt_cmp (pc_dnotin hu hi.run ho.run) h1) fun σ H Q ⟨δ, ok, q⟩ => ?_, dCmpT_mo gDNotIn_mo hi.mo ho.mo⟩
  exact dnin_lift hi.mo ho.mo σ H _ δ ok (hi.mo δ _ _ (fun d hd => ho.mo δ _ _ (fun e he => gDNotIn_mo _ _ _ _ (fun z hz H2 s2 => ⟨z, rfl, hz H2 s2⟩) he) hd) q)
/-! slices -/
abbrev TDO := Dn → (Option Int → Prop) → Prop
def lO (K : PySem.W.Frag) (t : TDO) : L2.TO := fun σ H Q => ∃ δ, EnvOk K H δ σ ∧ t δ fun o => ∀ H', Same H H' → Q o H'
structure PDO (X : Cx) (e : Option Expr) (t : TDO) : Prop where
  run : PO X e (lO X.K t)
  mo : ∀ δ (P P' : Option Int → Prop), (∀ d, P d → P' d) → t δ P → t δ P'
def dNoP : TDO := fun _ Q => Q none
def dP (t : TD) : TDO := fun δ Q => t δ fun d => match d with
  | .int i => Q (some i)
  | _ => False
theorem PO.imp {e : Option Expr} {t t' : L2.TO} (h : PO X e t) (w : ∀ σ H Q, t' σ H Q → t σ H Q) : PO X e t' := ⟨fun pins s σ H Q I q => h.run pins s σ H Q I (w _ _ _ q)⟩
theorem pdo_none : PDO X none dNoP := ⟨PO.imp po_none fun σ H Q ⟨δ, ok, q⟩ => q H (Same.refl H), fun _ _ _ m h => m _ h⟩
theorem pdo_some (h : PD X e te) : PDO X (some e) (dP te) := by
  refine ⟨PO.imp (po_some h.run) fun σ H Q ⟨δ, ok, q⟩ => ?_, fun δ P P' m q => h.mo δ _ _ (fun d hd => ?_) q⟩
  · refine ⟨δ, ok, h.mo δ _ _ (fun d hd x H1 s1 r1 => ?_) q⟩
    cases d <;> first | exact hd.elim | exact ⟨_, r1.int_inv, hd H1 s1⟩
  · cases d <;> first | exact hd.elim | exact m _ hd
def cutD (xs : List PyData) (lo hi : Option Int) : List PyData := (xs.drop (HT.sIx xs.length 0 lo)).take (HT.sIx xs.length xs.length hi - HT.sIx xs.length 0 lo)
theorem RpAll.cut {K : PySem.W.Frag} {H : Hp} {xs : List V} {ds : List PyData} (r : RpAll K H xs ds) (lo hi : Option Int) : RpAll K H (cutV xs lo hi) (cutD ds lo hi) := by
  unfold cutV cutD
  rw [r.length]
  exact (r.drop _).take _
def gSl (d : PyData) (lo hi : Option Int) (Q : PyData → Prop) : Prop := match d with
  | .tuple xs => ¬ (HT.sIx xs.length 0 lo = 0 ∧ HT.sIx xs.length xs.length hi = xs.length) ∧ Q (.tuple (cutD xs lo hi))
  | .list xs => Q (.list (cutD xs lo hi))
  | _ => False
theorem gSl_mo {d : PyData} {lo hi : Option Int} {P P' : PyData → Prop} (m : ∀ z, P z → P' z) (h : gSl d lo hi P) : gSl d lo hi P' := by
  cases d <;> first | exact h.elim | exact ⟨h.1, m _ h.2⟩ | exact m _ h
def dSl (te : TD) (tl th : TDO) : TD := fun δ Q => te δ fun d => tl δ fun l => th δ fun u => gSl d l u Q
theorem pd_slice {lo hi : Option Expr} {tl th : TDO} {p2 : Pos} (he : PD X e te) (hl : PDO X lo tl) (hu : PDO X hi th) : PD X (.Subscript e (.Slice lo hi none p2) pos) (dSl te tl th) := by
  refine ⟨PE.imp (pe_slice (sl_tup.or sl_list) he.run hl.run hu.run) fun σ H Q ⟨δ, ok, q⟩ => ?_, fun δ P P' m h => he.mo δ _ _ (fun d hd => hl.mo δ _ _ (fun l hl' => hu.mo δ _ _ (fun u hu' => gSl_mo m hu') hl') hd) h⟩
  refine ⟨δ, ok, he.mo δ _ _ (fun d hd x H1 s1 r1 => ?_) q⟩
  refine ⟨δ, ok.mono s1, hl.mo δ _ _ (fun l hl' H2 s2 => ?_) hd⟩
  refine ⟨δ, ok.mono (s1.trans s2), hu.mo δ _ _ (fun u hu' H3 s3 => ?_) hl'⟩
  have r3 := r1.mono (s2.trans s3)
  cases d <;> first
    | exact hu'.elim
    | (obtain ⟨hw, q⟩ := hu'
       obtain ⟨a, xs, rfl, sa, ra⟩ := r3.tup_inv
       refine .inl ⟨a, xs, rfl, sa, by rw [ra.length]; exact hw, fun p hp => ?_⟩
       exact wV.at q (((s1.trans s2).trans s3).trans (same_upd hp)) (.tup (SqT.of upd_same) ((ra.cut _ _).mono (same_upd hp))))
    | (obtain ⟨a, xs, rfl, sa, ra⟩ := r3.lst_inv
       refine .inr ⟨a, xs, rfl, SqL.of sa, fun p hp => ?_⟩
       exact wV.at (show wV X.K H Q _ from hu') (((s1.trans s2).trans s3).trans (same_upd hp)) (.lst upd_same ((ra.cut _ _).mono (same_upd hp))))
/-! displays -/
def dTup (t : TDA) : TD := fun δ Q => t δ fun ds => Q (.tuple ds)
def dLst (t : TDA) : TD := fun δ Q => t δ fun ds => Q (.list ds)
theorem pd_tup {x1} (h : PDA X es t) (hl : es.length ≤ 1000 := by decide) : PD X (.Tuple es x1 pos) (dTup t) := by
  refine ⟨PE.imp (pe_tup h.run) fun σ H Q ⟨δ, ok, q⟩ => ?_, fun δ P P' m q => h.mo δ _ _ (fun ds hd => m _ hd) q⟩
  refine ⟨δ, ok, h.mo δ _ _ (fun ds hd vs H1 s1 r1 => ?_) (h.len δ _ q)⟩
  refine ⟨by rw [r1.length, hd.2]; exact le_line hl, fun p hp => ?_⟩
  exact wV.at hd.1 (s1.trans (same_upd hp)) (.tup (SqT.of upd_same) (r1.mono (same_upd hp)))
theorem pd_lst (h : PDA X es t) (hl : es.length ≤ 1000 := by decide) : PD X (.List es pos) (dLst t) := by
  refine ⟨PE.imp (pe_lst h.run) fun σ H Q ⟨δ, ok, q⟩ => ?_, fun δ P P' m q => h.mo δ _ _ (fun ds hd => m _ hd) q⟩
  refine ⟨δ, ok, h.mo δ _ _ (fun ds hd vs H1 s1 r1 => ?_) (h.len δ _ q)⟩
  refine ⟨by rw [r1.length, hd.2]; exact le_line hl, fun p hp => ?_⟩
  exact wV.at hd.1 (s1.trans (same_upd hp)) (.lst upd_same (r1.mono (same_upd hp)))
end
/-! ### == and its kin -/
/-- ints and texts by themselves, other data at any depth -/
def cEq (d e : PyData) (Q : Bool → Prop) : Prop := match d, e with
  | .int i, .int j => Q (decide (i = j))
  | .str x, .str y => Q (decide (x = y))
  | d, e => (SeqAt.shaped d = true ∧ SeqAt.shaped e = true) ∧ Q (PyData.eqv d e)
def cNe (d e : PyData) (Q : Bool → Prop) : Prop := match d, e with
  | .int i, .int j => Q (!decide (i = j))
  | .str x, .str y => Q (!decide (x = y))
  | d, e => (SeqAt.shaped d = true ∧ SeqAt.shaped e = true) ∧ Q (!PyData.eqv d e)
theorem cEq_mo : MoB cEq := fun d e P P' m h => by
  unfold cEq at h ⊢
  split at h
  · exact m _ h
  · exact m _ h
  · exact ⟨h.1, m _ h.2⟩
theorem cNe_mo : MoB cNe := fun d e P P' m h => by
  unfold cNe at h ⊢
  split at h
  · exact m _ h
  · exact m _ h
  · exact ⟨h.1, m _ h.2⟩
def rEqA (K : PySem.W.Frag) : R2 := fun x y H Q => rEq x y H Q ∨ rEqD K x y H Q
def rNeA (K : PySem.W.Frag) : R2 := fun x y H Q => rNe x y H Q ∨ rNeD K x y H Q
theorem op_eqA {X : Cx} (hu : X.A.units + 64 < cLine) : OpR X (compareOp .Eq) (rEqA X.K) := OpR.or op_eq (op_eqD hu)
theorem op_neA {X : Cx} (hu : X.A.units + 64 < cLine) : OpR X (compareOp .NotEq) (rNeA X.K) := OpR.or op_ne (op_neD hu)
theorem lk_eq {K : PySem.W.Frag} : LkB K (rEqA K) cEq := fun H x y d e Q r1 r2 h => by
  unfold cEq at h
  split at h
  · rename_i i j
    rw [r1.int_inv, r2.int_inv]
    refine .inl ⟨rfl, ?_⟩
    rw [show decide (V.int i = V.int j) = decide (i = j) by simp]
    exact h
  · rename_i i j
    rw [r1.str_inv, r2.str_inv]
    refine .inl ⟨rfl, ?_⟩
    rw [show decide (V.str i = V.str j) = decide (i = j) by simp]
    exact h
  · obtain ⟨⟨h1, h2⟩, q⟩ := h
    exact .inr ⟨d, e, r1.dp (SeqAt.canLay_of_shaped h1), r2.dp (SeqAt.canLay_of_shaped h2), h1, h2, q⟩
theorem lk_ne {K : PySem.W.Frag} : LkB K (rNeA K) cNe := fun H x y d e Q r1 r2 h => by
  unfold cNe at h
  split at h
  · rename_i i j
    rw [r1.int_inv, r2.int_inv]
    refine .inl ⟨rfl, ?_⟩
    rw [show decide (V.int i = V.int j) = decide (i = j) by simp]
    exact h
  · rename_i i j
    rw [r1.str_inv, r2.str_inv]
    refine .inl ⟨rfl, ?_⟩
    rw [show decide (V.str i = V.str j) = decide (i = j) by simp]
    exact h
  · obtain ⟨⟨h1, h2⟩, q⟩ := h
    exact .inr ⟨d, e, r1.dp (SeqAt.canLay_of_shaped h1), r2.dp (SeqAt.canLay_of_shaped h2), h1, h2, q⟩
def cInt (f : Int → Int → Bool) : GB
  | .int i, .int j, Q => Q (f i j)
  | _, _, _ => False
theorem cInt_mo {f : Int → Int → Bool} : MoB (cInt f) := fun d e P P' m h => by cases d <;> first | exact h.elim | (cases e <;> first | exact h.elim | exact m _ h)
theorem lk_int {K : PySem.W.Frag} {f : Int → Int → Bool} : LkB K (rI0 fun i j => .bl (f i j)) (cInt f) := fun H x y d e Q r1 r2 h => by
  cases d <;> first
    | exact h.elim
    | (cases e <;> first
      | exact h.elim
      | exact ⟨_, _, r1.int_inv, r2.int_inv, h⟩)
/-- is None -/
def cIsN (d e : PyData) (Q : Bool → Prop) : Prop := match e with
  | .none => (match d with
    | .none => Q true
    | _ => Q false)
  | _ => False
theorem cIsN_mo : MoB cIsN := fun d e P P' m h => by cases e <;> first | exact h.elim | (cases d <;> exact m _ h)
def rIsN : R2 := fun x y H Q => y = .non ∧ Q (.bl (decide (x = .non))) H
theorem op_isN' {X : Cx} : OpR X (compareOp .Is) rIsN := op_isN
theorem lk_isN {K : PySem.W.Frag} : LkB K rIsN cIsN := fun H x y d e Q r1 r2 h => by
  cases e <;> first
    | exact h.elim
    | (refine ⟨r2.non_inv, ?_⟩
       cases r1 <;> exact h)
/-- x in a list or tuple of flat things -/
def flatD : PyData → Bool
  | .none => true
  | .bool _ => true
  | .int _ => true
  | .str _ => true
  | _ => false
def inD (d : PyData) (ds : List PyData) : Bool := ds.any fun y => PyData.eqv y d
def cIn (d e : PyData) (Q : Bool → Prop) : Prop := match e with
  | .tuple ds => (flatD d = true ∧ ds.all flatD = true) ∧ Q (inD d ds)
  | .list ds => (flatD d = true ∧ ds.all flatD = true) ∧ Q (inD d ds)
  | _ => False
theorem cIn_mo : MoB cIn := fun d e P P' m h => by
  cases e <;> first | exact h.elim | exact ⟨h.1, m _ h.2⟩
section
variable {K : PySem.W.Frag} {H : Hp}
theorem Rp.flat {v : V} {d : PyData} (r : Rp K H v d) (f : flatD d = true) : flatV v = true := by
  cases r <;> first | rfl | exact absurd (show false = true from f) Bool.false_ne_true
theorem Rp.eqV {v w : V} {d e : PyData} (r : Rp K H v d) (s : Rp K H w e) (f : flatD d = true) (g : flatD e = true) : L2.eqV v w = PyData.eqv d e := by
  cases r <;> first
    | exact absurd (show false = true from f) Bool.false_ne_true
    | (cases s <;> first
      | exact absurd (show false = true from g) Bool.false_ne_true
      | (simp only [L2.eqV, PyData.eqv]))
theorem RpAll.inV {v : V} {d : PyData} (r : Rp K H v d) (f : flatD d = true) : ∀ {vs : List V} {ds : List PyData}, RpAll K H vs ds → ds.all flatD = true → vs.all flatV = true ∧ L2.inV v vs = inD d ds := by
  intro vs
  induction vs with
  | nil => intro ds h _; cases h; exact ⟨rfl, rfl⟩
  | cons w vs ih =>
    intro ds h g
    cases h with
    | cons a t =>
      rw [List.all_cons, Bool.and_eq_true] at g
      obtain ⟨h1, h2⟩ := ih t g.2
      refine ⟨by rw [List.all_cons, a.flat g.1, h1]; rfl, ?_⟩
      have h3 : vs.any (fun y => L2.eqV y v) = inD d _ := h2
      show (L2.eqV w v || vs.any fun y => L2.eqV y v) = (PyData.eqv _ d || _)
      rw [a.eqV r g.1 f, h3]
      rfl
end
theorem lk_in {K : PySem.W.Frag} : LkB K (rIn K false) cIn := fun H x y d e Q r1 r2 h => by
  cases e <;> first
    | exact h.elim
    | (obtain ⟨⟨f, g⟩, q⟩ := h
       obtain ⟨a, xs, rfl, sa, ra⟩ := r2.tup_inv
       obtain ⟨h1, h2⟩ := ra.inV r1 f g
       refine ⟨a, xs, rfl, .inr sa, r1.flat f, h1, ?_⟩
       rw [if_neg Bool.false_ne_true, h2]
       exact q)
    | (obtain ⟨⟨f, g⟩, q⟩ := h
       obtain ⟨a, xs, rfl, sa, ra⟩ := r2.lst_inv
       obtain ⟨h1, h2⟩ := ra.inV r1 f g
       refine ⟨a, xs, rfl, .inl (SqL.of sa), r1.flat f, h1, ?_⟩
       rw [if_neg Bool.false_ne_true, h2]
       exact q)
/-- one sign not in a text -/
def cNotSign : GB
  | .str x, .str z, Q => ∃ c, x = ⟨#[c]⟩ ∧ Q (!decide (c ∈ z.cps.toList))
  | _, _, _ => False
theorem cNotSign_mo : MoB cNotSign := fun d e P P' m h => by cases d <;> first | exact h.elim | (cases e <;> first | exact h.elim | exact let ⟨c, h1, h2⟩ := h; ⟨c, h1, m _ h2⟩)
def rNotSign : R2 := fun x y H Q => ∃ (c : Nat) (z : Str), x = .str ⟨#[c]⟩ ∧ y = .str z ∧ Q (.bl (!decide (c ∈ z.cps.toList))) H
theorem op_notSign {X : Cx} : OpR X (compareOp .NotIn) rNotSign := op_notIn_sign
theorem lk_notSign {K : PySem.W.Frag} : LkB K rNotSign cNotSign := fun H x y d e Q r1 r2 h => by
  cases d <;> first
    | exact h.elim
    | (cases e <;> first
      | exact h.elim
      | (obtain ⟨c, rfl, q⟩ := h
         exact ⟨c, _, r1.str_inv, r2.str_inv, q⟩))
/-! ### calls -/
abbrev Ct := List PyData → (PyData → Prop) → Prop
def MoC (F : Ct) : Prop := ∀ ds (P P' : PyData → Prop), (∀ z, P z → P' z) → F ds P → F ds P'
/-- a def's promise over data -/
def spD (K : PySem.W.Frag) (n : Nat) (F : Ct) : Sp := fun vs H Q _ => ∃ ds, RpAll K H vs ds ∧ ds.length = n ∧ F ds (wV K H Q)
/-- the module's name x is a def that keeps F -/
structure Has (P : Program) (w : World) (K : PySem.W.Frag) (mg : Str → Option Value) (base : Heap) (k : Nat) (x : Str) (n : Nat) (F : Ct) : Prop where
  ex : ∃ (f : Addr) (fd : FuncData) (ps : List Str), mg x = some (.ref f) ∧ PySem.W.keepIn K (.ref f) = true ∧ Binds K fd ps [] ∧ FnOk P w K mg base CX0 k f fd ps (spD K n F)
  mo : MoC F
def dCall (n : Nat) (F : Ct) (t : TDA) : TD := fun δ Q => t δ fun ds => F ds Q
theorem Has.up {P : Program} {w : World} {K : PySem.W.Frag} {mg : Str → Option Value} {base : Heap} {j k : Nat} {x : Str} {n : Nat} {F : Ct} (h : Has P w K mg base j x n F) (l : j ≤ k) : Has P w K mg base k x n F :=
  ⟨let ⟨f, fd, ps, h1, h2, h3, h4⟩ := h.ex; ⟨f, fd, ps, h1, h2, h3, h4.mono l⟩, h.mo⟩
section
variable {X : Cx} {e : Expr} {es : List Expr} {te : TD} {t : TDA} {p pos : Pos} {x : Str} {k n : Nat} {F : Ct}
theorem pd_call (h : Has X.prog X.w X.K X.mg X.base k x n F) (hr : Room k X.A) (hg : Gl X x) (ha : PDA X (e :: es) t) (hn : (e :: es).length = n := by rfl) (hdb : (x == ("__debug__" : Str)) = false := by decide)
    (he : starEach (e :: es) X.env = (false, eval e X.env) :: starEach es X.env := by rfl) (hpl : (backTo pos (starEach es X.env)).any (·.1) = false := by rfl) : PD X (.Call (.Name x p) (e :: es) [] pos) (dCall n F t) := by
  obtain ⟨f, fd, ps, h1, h2, h3, h4⟩ := h.ex
  refine ⟨PE.imp (pe_call h4 hr hg h1 h2 h3 .nil pass0 ha.run hdb he hpl) fun σ H Q ⟨δ, ok, q⟩ => ?_, fun δ P P' m q => ha.mo δ _ _ (fun ds hd => h.mo ds _ _ m hd) q⟩
  refine ⟨δ, ok, ha.mo δ _ _ (fun ds hd vs H1 s1 r1 => ?_) (ha.len δ _ q)⟩
  show spD X.K n F (vs ++ []) H1 Q E0
  rw [List.append_nil]
  exact ⟨ds, r1, hd.2.trans hn, h.mo ds _ _ (fun z hz => wV.mono s1 hz) hd.1⟩
def Lk1A (K : PySem.W.Frag) (r : List V → Hp → VK → Prop) (g : PyData → (PyData → Prop) → Prop) : Prop := ∀ (H : Hp) (x : V) (d : PyData) (Q : VK), Rp K H x d → g d (wV K H Q) → r [x] H Q
theorem one_lift {r : List V → Hp → VK → Prop} {g : PyData → (PyData → Prop) → Prop} (lk : Lk1A X.K r g) (mg : MoU g) (ha : PD X e te) (σ : L2.St) (H : Hp) (Q : VK) (h : lE X.K (dUn g te) σ H Q) : tCB r (tCons (lE X.K te) tNil) σ H Q := by
  obtain ⟨δ, ok, q⟩ := h
  exact ⟨δ, ok, ha.mo δ _ _ (fun d hd v H1 s1 r1 => lk H1 v d Q r1 (mg _ _ _ (fun z hz => wV.mono s1 hz) hd)) q⟩
theorem pd_callB {id : String} {r : List V → Hp → VK → Prop} {g : PyData → (PyData → Prop) → Prop} (hc : CallR X (.builtin id) r) (lk : Lk1A X.K r g) (mg : MoU g) (hg : Gl X x) (hm : X.mg x = none) (hv : bootBuiltins x = some (.builtin id)) (ha : PD X e te) (hn : x ≠ "__name__" := by decide) (hdb : (x == ("__debug__" : Str)) = false := by decide)
    (hs : starEach [e] X.env = [(false, eval e X.env)] := by rfl) : PD X (.Call (.Name x p) [e] [] pos) (dUn g te) :=
  ⟨PE.imp (pe_callB hc hg hm hv (pa_cons ha.run pa_nil hs) hn hdb hs rfl) (one_lift lk mg ha), dUn_mo mg ha.mo⟩
theorem pd_callTy {id : String} {r : List V → Hp → VK → Prop} {g : PyData → (PyData → Prop) → Prop} (hc : CallR X (.type id) r) (lk : Lk1A X.K r g) (mg : MoU g) (hg : Gl X x) (hm : X.mg x = none) (hv : bootBuiltins x = some (.type id)) (ha : PD X e te) (hn : x ≠ "__name__" := by decide) (hdb : (x == ("__debug__" : Str)) = false := by decide)
    (hs : starEach [e] X.env = [(false, eval e X.env)] := by rfl) : PD X (.Call (.Name x p) [e] [] pos) (dUn g te) :=
  ⟨PE.imp (pe_callTy hc hg hm hv (pa_cons ha.run pa_nil hs) hn hdb hs rfl) (one_lift lk mg ha), dUn_mo mg ha.mo⟩
end
def gLen : PyData → (PyData → Prop) → Prop
  | .tuple ds, Q => Q (.int ds.length)
  | .list ds, Q => Q (.int ds.length)
  | .str z, Q => z.length ≤ sizeLine ∧ Q (.int z.length)
  | _, _ => False
theorem gLen_mo : MoU gLen := fun d P P' m h => by cases d <;> first | exact h.elim | exact m _ h | exact ⟨h.1, m _ h.2⟩
def rLenA (K : PySem.W.Frag) : List V → Hp → VK → Prop := fun xs H Q => (∃ p ys, xs = [.ref p] ∧ (SqL K H p ys ∨ SqT K H p ys) ∧ Q (.int ys.length) H) ∨ ∃ z, xs = [.str z] ∧ z.length ≤ sizeLine ∧ Q (.int z.length) H
theorem call_lenA {X : Cx} : CallR X (.builtin "len") (rLenA X.K) := call_len_seq.or call_len_str
theorem lk_len {K : PySem.W.Frag} : Lk1A K (rLenA K) gLen := fun H x d Q r h => by
  cases d <;> first
    | exact h.elim
    | (obtain ⟨a, xs, rfl, sa, ra⟩ := r.tup_inv
       refine .inl ⟨a, xs, rfl, .inr sa, ?_⟩
       rw [ra.length]
       exact wV.now h (.int _))
    | (obtain ⟨a, xs, rfl, sa, ra⟩ := r.lst_inv
       refine .inl ⟨a, xs, rfl, .inl (SqL.of sa), ?_⟩
       rw [ra.length]
       exact wV.now h (.int _))
    | exact .inr ⟨_, congrArg (fun z => [z]) r.str_inv, h.1, wV.now h.2 (.int _)⟩
def gAbs : PyData → (PyData → Prop) → Prop
  | .int i, Q => Q (.int (if i < 0 then -i else i))
  | _, _ => False
theorem gAbs_mo : MoU gAbs := fun d P P' m h => by cases d <;> first | exact h.elim | exact m _ h
theorem lk_abs {K : PySem.W.Frag} : Lk1A K (fun xs H Q => ∃ i, xs = [.int i] ∧ Q (.int (if i < 0 then -i else i)) H) gAbs := fun H x d Q r h => by
  cases d <;> first
    | exact h.elim
    | exact ⟨_, congrArg (fun z => [z]) r.int_inv, wV.now h (.int _)⟩
def gList : PyData → (PyData → Prop) → Prop
  | .tuple ds, Q => Q (.list ds)
  | .list ds, Q => Q (.list ds)
  | _, _ => False
theorem gList_mo : MoU gList := fun d P P' m h => by cases d <;> first | exact h.elim | exact m _ h
theorem lk_list {K : PySem.W.Frag} : Lk1A K (fun xs H Q => ∃ p ys, xs = [.ref p] ∧ (SqL K H p ys ∨ SqT K H p ys) ∧ ∀ l, H l = none → Q (.ref l) (upd H l (.lst ys))) gList := fun H x d Q r h => by
  cases d <;> first
    | exact h.elim
    | (obtain ⟨a, xs, rfl, sa, ra⟩ := r.tup_inv
       exact ⟨a, xs, rfl, .inr sa, fun l hl => wV.at (show wV K H Q _ from h) (same_upd hl) (.lst upd_same (ra.mono (same_upd hl)))⟩)
    | (obtain ⟨a, xs, rfl, sa, ra⟩ := r.lst_inv
       exact ⟨a, xs, rfl, .inl (SqL.of sa), fun l hl => wV.at (show wV K H Q _ from h) (same_upd hl) (.lst upd_same (ra.mono (same_upd hl)))⟩)
def gInt : PyData → (PyData → Prop) → Prop
  | .int i, Q => Q (.int i)
  | .bool b, Q => Q (.int (if b then 1 else 0))
  | _, _ => False
theorem gInt_mo : MoU gInt := fun d P P' m h => by cases d <;> first | exact h.elim | exact m _ h
theorem lk_int1 {K : PySem.W.Frag} : Lk1A K (fun xs H Q => (∃ i, xs = [.int i] ∧ Q (.int i) H) ∨ ∃ k, xs = [.bl k] ∧ Q (.int (if k then 1 else 0)) H) gInt := fun H x d Q r h => by
  cases d <;> first
    | exact h.elim
    | exact .inl ⟨_, congrArg (fun z => [z]) r.int_inv, wV.now h (.int _)⟩
    | exact .inr ⟨_, congrArg (fun z => [z]) r.bl_inv, wV.now h (.int _)⟩
/-- the sum of a list of ints -/
def gSum : PyData → (PyData → Prop) → Prop
  | .list ds, Q => ∃ ns : List Int, ds = ns.map PyData.int ∧ Q (.int ns.sum)
  | _, _ => False
theorem gSum_mo : MoU gSum := fun d P P' m h => by cases d <;> first | exact h.elim | exact let ⟨ns, h1, h2⟩ := h; ⟨ns, h1, m _ h2⟩
theorem lk_sum {K : PySem.W.Frag} : Lk1A K (rSum K) gSum := fun H x d Q r h => by
  cases d <;> first
    | exact h.elim
    | (obtain ⟨ns, rfl, q⟩ := h
       obtain ⟨a, xs, rfl, sa, ra⟩ := r.lst_inv
       have e := ra.ints
       subst e
       exact ⟨a, ns, rfl, SqL.of sa, wV.now q (.int _)⟩)
/-! isinstance(x, T) -/
def isiB (T : String) : PyData → Option Bool
  | .int _ => if T = "int" then some true else if T = "bool" then some false else none
  | .tuple _ => if T = "tuple" then some true else none
  | .list _ => if T = "list" then some true else none
  | _ => none
def gIsi (T : String) (d : PyData) (Q : PyData → Prop) : Prop := ∃ b, isiB T d = some b ∧ Q (.bool b)
theorem gIsi_mo {T : String} : MoU (gIsi T) := fun d P P' m h => let ⟨b, h1, h2⟩ := h; ⟨b, h1, m _ h2⟩
theorem tyT {K : PySem.W.Frag} {H : Hp} {a : Addr} {xs : List V} (h : SqT K H a xs) : TyX K H (.ref a) (.type "tuple") := by
  rcases h with (h | ⟨o, h⟩) | ⟨o, its, n, h, c, _⟩
  · exact .base (.tup h)
  · exact .fTuple h
  · exact .kTuple h c
theorem pd_isi {X : Cx} {e : Expr} {te : TD} {p p2 pos : Pos} {T : String} {Ts : Str} (hg : Gl X "isinstance") (hm : X.mg "isinstance" = none) (hg2 : Gl X Ts) (hm2 : X.mg Ts = none) (hv : bootBuiltins Ts = some (.type T)) (ha : PD X e te)
    (hn : Ts ≠ "__name__" := by decide) (hdb : (Ts == ("__debug__" : Str)) = false := by decide) (hs : starEach [e, .Name Ts p2] X.env = (false, eval e X.env) :: starEach [.Name Ts p2] X.env := by rfl) (hs2 : starEach [.Name Ts p2] X.env = [(false, eval (.Name Ts p2) X.env)] := by rfl)
    (hpl : (backTo pos (starEach [.Name Ts p2] X.env)).any (·.1) = false := by rfl) : PD X (.Call (.Name "isinstance" p) [e, .Name Ts p2] [] pos) (dUn (gIsi T) te) := by
  refine ⟨PE.imp (pe_callB call_isi hg hm boot_isinstance (pa_cons ha.run (pa_cons (pe_bltn (v := .ty T) hg2 hm2 hv rfl hn hdb) pa_nil hs2) hs) (by decide) (by decide) hs hpl) fun σ H Q ⟨δ, ok, q⟩ => ?_, dUn_mo gIsi_mo ha.mo⟩
  refine ⟨δ, ok, ha.mo δ _ _ (fun d hd v H1 s1 r1 => ?_) q⟩
  obtain ⟨b, hb, q⟩ := hd
  have fin := fun (t : Value) (ty : TyX X.K H1 v t) (kk : PySem.W.kitOne X.K t (.type T) = some b) => (show rIsi X.K [v, .ty T] H1 Q from ⟨v, .ty T, t, _, b, rfl, .ty T, ty, kk, wV.at q s1 (.bl _)⟩)
  cases d with
  | int i =>
    have hb : (if T = "int" then some true else if T = "bool" then some false else none) = some b := hb
    have e := r1.int_inv
    subst e
    by_cases e1 : T = "int"
    · rw [if_pos e1] at hb; subst e1; cases hb; exact fin _ (.base (.int _)) (kit_ty (by decide +kernel))
    · rw [if_neg e1] at hb
      by_cases e2 : T = "bool"
      · rw [if_pos e2] at hb; subst e2; cases hb; exact fin _ (.base (.int _)) (kit_ty (by decide +kernel))
      · rw [if_neg e2] at hb; cases hb
  | tuple ds =>
    have hb : (if T = "tuple" then some true else none) = some b := hb
    obtain ⟨a, xs, rfl, sa, ra⟩ := r1.tup_inv
    by_cases e1 : T = "tuple"
    · rw [if_pos e1] at hb; subst e1; cases hb; exact fin _ (tyT sa) (kit_ty (by decide +kernel))
    · rw [if_neg e1] at hb; cases hb
  | list ds =>
    have hb : (if T = "list" then some true else none) = some b := hb
    obtain ⟨a, xs, rfl, sa, ra⟩ := r1.lst_inv
    by_cases e1 : T = "list"
    · rw [if_pos e1] at hb; subst e1; cases hb; exact fin _ (.base (.lst sa)) (kit_ty (by decide +kernel))
    · rw [if_neg e1] at hb; cases hb
  | _ => cases hb
end Mb
set_option Elab.async false
set_option linter.all false
set_option maxRecDepth 100000
set_option maxHeartbeats 4000000
namespace Mb
open PySem PySem.Spec PyProof.Rows L2
/-! ### statements -/
def dSkip : TDS := fun E δ => E.nx δ
def dSeq (t u : TDS) : TDS := fun E δ => t { E with nx := u E } δ
def dRet (t : TD) : TDS := fun E δ => t δ E.rt
def dIf (c : TDT) (t u : TDS) : TDS := fun E δ => c δ fun b => if b = true then t E δ else u E δ
def dSet (i : Nat) (t : TD) : TDS := fun E δ => t δ fun d => E.nx (δ.set i (some d))
def dNever : TDS := fun _ _ => False
def dDrop (t : TD) : TDS := fun E δ => t δ fun _ => E.nx δ
def setAll : Dn → List Nat → List PyData → Dn
  | δ, i :: is, d :: ds => setAll (δ.set i (some d)) is ds
  | δ, _, _ => δ
def dUnp (is : List Nat) (t : TD) : TDS := fun E δ => t δ fun d => match d with
  | .tuple ds => ds.length = is.length ∧ E.nx (setAll δ is ds)
  | _ => False
def dUnpL (is : List Nat) (t : TD) : TDS := fun E δ => t δ fun d => match d with
  | .list ds => ds.length = is.length ∧ E.nx (setAll δ is ds)
  | _ => False
def dPar (i j : Nat) (t : TDA) : TDS := fun E δ => t δ fun ds => match ds with
  | [d, e] => E.nx ((δ.set i (some d)).set j (some e))
  | _ => False
def gNames : List Nat → TGs
  | [] => gNil
  | i :: is => gCons (gName i) (gNames is)
section
variable {K : PySem.W.Frag}
theorem gNames_ok {H : Hp} : ∀ {is : List Nat} {xs : List V} {ds : List PyData} {σ : L2.St} {δ : Dn} {Q : L2.St → Hp → Prop}, RpAll K H xs ds → ds.length = is.length → EnvOk K H δ σ → wN K H Q (setAll δ is ds) → gNames is xs σ H Q
  | [], xs, ds, σ, δ, Q, r, hl, ok, q => by
    cases ds with
    | nil => cases r; exact ⟨rfl, q σ H (Same.refl H) ok⟩
    | cons _ _ => cases hl
  | i :: is, xs, ds, σ, δ, Q, r, hl, ok, q => by
    cases ds with
    | nil => cases hl
    | cons d ds =>
      cases r with
      | cons a t =>
        refine ⟨_, _, rfl, ?_⟩
        exact gNames_ok t (Nat.succ.inj hl) (ok.set a i) q
end
section
variable {X : Cx} {st : Stmt} {rest a b : List Stmt} {t u : TDS} {c e : Expr} {te : TD} {tc : TDT} {pos : Pos}
theorem pdss_nil : PDSs X [] dSkip := ⟨PSs.imp pss_nil fun D σ H ⟨δ, ok, q⟩ => q σ H (Same.refl H) ok, fun E E' δ l h => l.nx _ h⟩
theorem pdss_cons (h1 : PDS X st t) (h2 : PDSs X rest u) : PDSs X (st :: rest) (dSeq t u) := by
  refine ⟨PSs.imp (pss_cons h1.run h2.run) fun D σ H ⟨δ, ok, q⟩ => ?_, fun E E' δ l h => ?_⟩
  · exact ⟨δ, ok, h1.mo { wE X.K H D with nx := u (wE X.K H D) } _ δ ⟨fun δ' h σ' H' s ok' => ⟨δ', ok', h2.mo _ _ δ' (wE.mono s D) h⟩, fun _ h => h, fun _ h => h, fun _ h => h⟩ q⟩
  · exact h1.mo { E with nx := u E } { E' with nx := u E' } δ ⟨fun δ' h => h2.mo _ _ δ' l h, l.rt, l.bk, l.ct⟩ h
theorem pdss_one (h1 : PDS X st t) : PDSs X [st] t := ⟨pss_one h1.run, h1.mo⟩
theorem pds_ret (h : PD X e te) : PDS X (.Return (some e) pos) (dRet te) := ⟨PS.imp (ps_ret h.run) fun D σ H ⟨δ, ok, q⟩ => ⟨δ, ok, q⟩, fun E E' δ l q => h.mo δ _ _ l.rt q⟩
theorem pds_if (hc : PDT X c tc) (ha : PDSs X a t) (hb : PDSs X b u) : PDS X (.If c a b pos) (dIf tc t u) := by
  refine ⟨PS.imp (ps_if hc.run ha.run hb.run) fun D σ H ⟨δ, ok, q⟩ => ?_, fun E E' δ l q => hc.mo δ _ _ (fun k h => ?_) q⟩
  · refine ⟨δ, ok, hc.mo δ _ _ (fun k h H1 s1 => ?_) q⟩
    cases k with
    | true => exact iteT ⟨δ, ok.mono s1, ha.mo _ _ δ (wE.mono s1 D) (by simpa using h)⟩
    | false => exact iteF ⟨δ, ok.mono s1, hb.mo _ _ δ (wE.mono s1 D) (by simpa using h)⟩
  · cases k with
    | true => exact iteT (ha.mo _ _ δ l (by simpa using h))
    | false => exact iteF (hb.mo _ _ δ l (by simpa using h))
theorem pds_never : PDS X st dNever := ⟨PS.imp ps_never fun D σ H ⟨δ, ok, q⟩ => q.elim, fun _ _ _ _ q => q.elim⟩
theorem pds_expr (h : PD X e te) (hs : swapsWith e none pos.line X.env = pure false := by rfl) : PDS X (.Expr e pos) (dDrop te) := by
  refine ⟨PS.imp (ps_expr h.run hs) fun D σ H ⟨δ, ok, q⟩ => ?_, fun E E' δ l q => h.mo δ _ _ (fun _ h => l.nx _ h) q⟩
  exact ⟨δ, ok, h.mo δ _ _ (fun d hd v H1 s1 r1 => hd σ H1 s1 (ok.mono s1)) q⟩
theorem pds_set {i : Nat} {x : Str} {pos' : Pos} (hN : X.N.Nodup) (h : PD X e te) (hi : X.N[i]? = some x := by rfl) (hx : Loc X.env.scope x := by first | exact Or.inl rfl | exact Or.inr rfl) (hs : swapsWith e (some (.Name x pos')) pos.line X.env = pure false := by rfl) (hf : X.fn x = true ∨ X.env.scope.names.lookup x = some .local := by first | exact .inl rfl | exact .inr rfl) :
    PDS X (.Assign [.Name x pos'] e pos) (dSet i te) := by
  refine ⟨PS.imp (ps_set hN hi hx h.run hs hf) fun D σ H ⟨δ, ok, q⟩ => ?_, fun E E' δ l q => h.mo δ _ _ (fun _ h => l.nx _ h) q⟩
  exact ⟨δ, ok, h.mo δ _ _ (fun d hd v H1 s1 r1 => hd _ H1 s1 ((ok.mono s1).set r1 i)) q⟩
theorem pds_unp {is : List Nat} {es : List Expr} {k : Nat} {tpos : Pos} (hc : X.calm = true) (hg : PGs X es (gNames is)) (h : PD X e te) (hl : (assignEach es X.env).length = is.length := by rfl) (hst : (assignEach es X.env).findIdx? (·.1) = none := by rfl)
    (hs : swapsWithSole [.Tuple es k tpos] e pos.line X.env = pure false := by rfl) (hw : swappedStores [.Tuple es k tpos] e X.env = pure none := by rfl)
    (h1 : (assignEach [.Tuple es k tpos] X.env).map (·.2) = [assign (.Tuple es k tpos) X.env] := by rfl) : PDS X (.Assign [.Tuple es k tpos] e pos) (dUnp is te) := by
  refine ⟨PS.imp (ps_asg h.run (pg_tup hc hg hl hst) hs hw h1) fun D σ H ⟨δ, ok, q⟩ => ?_, fun E E' δ l q => h.mo δ _ _ (fun d hd => ?_) q⟩
  · refine ⟨δ, ok, h.mo δ _ _ (fun d hd v H1 s1 r1 => ?_) q⟩
    cases d <;> first
      | exact hd.elim
      | (obtain ⟨a, xs, rfl, sa, ra⟩ := r1.tup_inv
         exact ⟨a, xs, rfl, sa, ra.length.trans hd.1, gNames_ok ra hd.1 (ok.mono s1) (wN.mono s1 hd.2)⟩)
  · cases d <;> first | exact hd.elim | exact ⟨hd.1, l.nx _ hd.2⟩
theorem pds_unpL {is : List Nat} {es : List Expr} {k : Nat} {tpos : Pos} (hc : X.calm = true) (hg : PGs X es (gNames is)) (h : PD X e te) (hl : (assignEach es X.env).length = is.length := by rfl) (hst : (assignEach es X.env).findIdx? (·.1) = none := by rfl)
    (hs : swapsWithSole [.Tuple es k tpos] e pos.line X.env = pure false := by rfl) (hw : swappedStores [.Tuple es k tpos] e X.env = pure none := by rfl)
    (h1 : (assignEach [.Tuple es k tpos] X.env).map (·.2) = [assign (.Tuple es k tpos) X.env] := by rfl) : PDS X (.Assign [.Tuple es k tpos] e pos) (dUnpL is te) := by
  refine ⟨PS.imp (ps_asg h.run (pg_lst hc hg hl hst) hs hw h1) fun D σ H ⟨δ, ok, q⟩ => ?_, fun E E' δ l q => h.mo δ _ _ (fun d hd => ?_) q⟩
  · refine ⟨δ, ok, h.mo δ _ _ (fun d hd v H1 s1 r1 => ?_) q⟩
    cases d <;> first
      | exact hd.elim
      | (obtain ⟨a, xs, rfl, sa, ra⟩ := r1.lst_inv
         exact ⟨a, xs, rfl, SqL.of sa, ra.length.trans hd.1, gNames_ok ra hd.1 (ok.mono s1) (wN.mono s1 hd.2)⟩)
  · cases d <;> first | exact hd.elim | exact ⟨hd.1, l.nx _ hd.2⟩
theorem pds_par {i j : Nat} {x y : Str} {a b : Expr} {ta : TDA} {px py pt : Pos} {kt k2 pt2} (hc : X.calm = true) (hN : X.N.Nodup) (ha : PDA X [a, b] ta) (hi : X.N[i]? = some x := by rfl) (hj : X.N[j]? = some y := by rfl) (hij : i ≠ j := by decide)
    (hx : X.env.scope.names.lookup x = some .local := by rfl) (hy : X.env.scope.names.lookup y = some .local := by rfl)
    (hw : swappedStores [.Tuple [.Name x px, .Name y py] kt pt] (.Tuple [a, b] k2 pt2) X.env = pure (some [x, y]) := by rfl)
    (hs : swapsWithSole [.Tuple [.Name x px, .Name y py] kt pt] (.Tuple [a, b] k2 pt2) pos.line X.env = pure false := by rfl) :
    PDS X (.Assign [.Tuple [.Name x px, .Name y py] kt pt] (.Tuple [a, b] k2 pt2) pos) (dPar i j ta) := by
  refine ⟨PS.imp (ps_par hc hN hi hj hij hx hy ha.run hw hs) fun D σ H ⟨δ, ok, q⟩ => ?_, fun E E' δ l q => ha.mo δ _ _ (fun ds hd => ?_) q⟩
  · refine ⟨δ, ok, ha.mo δ _ _ (fun ds hd vs H1 s1 r1 => ?_) q⟩
    cases r1 with
    | nil => exact hd.elim
    | cons r1 t =>
      cases t with
      | nil => exact hd.elim
      | cons r2 t =>
        cases t with
        | nil => exact ⟨_, _, rfl, hd _ H1 s1 (((ok.mono s1).set r1 i).set r2 j)⟩
        | cons _ _ => exact hd.elim
  · split at hd
    · exact l.nx _ hd
    · exact hd.elim
end
/-! ### for -/
def forR (i : Nat) (tb : TDS) (E : DE) : List PyData → Dn → Prop
  | [], δ => E.nx δ
  | d :: ds, δ => tb { nx := forR i tb E ds, ct := forR i tb E ds, bk := E.nx, rt := E.rt } (δ.set i (some d))
theorem forR_mo {i : Nat} {tb : TDS} (m : MoS tb) {E E' : DE} (l : E.le E') : ∀ (ds : List PyData) (δ : Dn), forR i tb E ds δ → forR i tb E' ds δ
  | [], δ, h => l.nx δ h
  | d :: ds, δ, h => m { nx := forR i tb E ds, ct := forR i tb E ds, bk := E.nx, rt := E.rt } { nx := forR i tb E' ds, ct := forR i tb E' ds, bk := E'.nx, rt := E'.rt } _ ⟨forR_mo m l ds, l.rt, l.nx, forR_mo m l ds⟩ h
def lstK (d : PyData) (k : List PyData → Prop) : Prop := match d with
  | .list ds => k ds
  | _ => False
def tupK (d : PyData) (k : List PyData → Prop) : Prop := match d with
  | .tuple ds => k ds
  | _ => False
theorem lstK_inv {d : PyData} {k : List PyData → Prop} (h : lstK d k) : ∃ ds, d = .list ds ∧ k ds := by
  cases d <;> first | exact h.elim | exact ⟨_, rfl, h⟩
theorem tupK_inv {d : PyData} {k : List PyData → Prop} (h : tupK d k) : ∃ ds, d = .tuple ds ∧ k ds := by
  cases d <;> first | exact h.elim | exact ⟨_, rfl, h⟩
def dForL (i : Nat) (src : TD) (tb : TDS) : TDS := fun E δ => src δ fun d => lstK d fun ds => forR i tb E ds δ
def dForT (i : Nat) (src : TD) (tb : TDS) : TDS := fun E δ => src δ fun d => tupK d fun ds => forR i tb E ds δ
def rangeD (n : Nat) : List PyData := (List.range n).map fun k => .int ((k : Nat) : Int)
def dForN (i : Nat) (src : TD) (tb : TDS) : TDS := fun E δ => src δ fun d => match d with
  | .int j => (-(2 ^ 62) ≤ j ∧ j < 2 ^ 62) ∧ forR i tb E (rangeD j.toNat) δ
  | _ => False
def signs (z : Str) : List PyData := z.cps.toList.map fun c => .str ⟨#[c]⟩
def dForS (i : Nat) (src : TD) (tb : TDS) : TDS := fun E δ => src δ fun d => match d with
  | .str z => forR i tb E (signs z) δ
  | _ => False
/-- for a, b in zip(xs, ys), two lists of one length -/
def forR2 (i j : Nat) (tb : TDS) (E : DE) : List PyData → List PyData → Dn → Prop
  | d :: ds, e :: es, δ => tb { nx := forR2 i j tb E ds es, ct := forR2 i j tb E ds es, bk := E.nx, rt := E.rt } ((δ.set i (some d)).set j (some e))
  | _, _, δ => E.nx δ
theorem forR2_mo {i j : Nat} {tb : TDS} (m : MoS tb) {E E' : DE} (l : E.le E') : ∀ (ds es : List PyData) (δ : Dn), forR2 i j tb E ds es δ → forR2 i j tb E' ds es δ
  | d :: ds, e :: es, δ, h => m { nx := forR2 i j tb E ds es, ct := forR2 i j tb E ds es, bk := E.nx, rt := E.rt } { nx := forR2 i j tb E' ds es, ct := forR2 i j tb E' ds es, bk := E'.nx, rt := E'.rt } _ ⟨forR2_mo m l ds es, l.rt, l.nx, forR2_mo m l ds es⟩ h
  | [], _, δ, h => by unfold forR2 at h ⊢; exact l.nx δ h
  | _ :: _, [], δ, h => by unfold forR2 at h ⊢; exact l.nx δ h
def dForZ (i j : Nat) (src : TDA) (tb : TDS) : TDS := fun E δ => src δ fun l => match l with
  | [.list ds, .list es] => ds.length = es.length ∧ forR2 i j tb E ds es δ
  | _ => False
theorem drop_cons {α : Type} {l : List α} {k : Nat} {d : α} (h : l[k]? = some d) : l.drop k = d :: l.drop (k + 1) := by
  obtain ⟨h1, h2⟩ := List.getElem?_eq_some_iff.mp h
  rw [List.drop_eq_getElem_cons h1, h2]
section
variable {X : Cx} {body : List Stmt} {tb : TDS} {e : Expr} {te : TD} {pos : Pos}
/-- what holds between two turns -/
def Pf (K : PySem.W.Frag) (i : Nat) (tb : TDS) (D : Ends) (H1 : Hp) (ds : List PyData) (k : Nat) (σ : L2.St) (H : Hp) : Prop := ∃ δ, Same H1 H ∧ EnvOk K H δ σ ∧ forR i tb (wE K H1 D) (ds.drop k) δ
theorem Pf.turn {K : PySem.W.Frag} {i : Nat} (m : MoS tb) {D : Ends} {H1 : Hp} {ds : List PyData} {k : Nat} {σ : L2.St} {H : Hp} (p : Pf K i tb D H1 ds k σ H) {x : V} {d : PyData} (hd : ds[k]? = some d) {H2 : Hp} (s2 : Same H H2) (r : Rp K H2 x d) :
    gName i x σ H2 fun σ2 H2 => lS K tb { D with nx := Pf K i tb D H1 ds (k + 1), ct := Pf K i tb D H1 ds (k + 1), bk := D.nx } σ2 H2 := by
  obtain ⟨δ, s, ok, h⟩ := p
  rw [drop_cons hd] at h
  refine ⟨δ.set i (some d), (ok.mono s2).set r i, m { nx := forR i tb (wE K H1 D) (ds.drop (k + 1)), ct := forR i tb (wE K H1 D) (ds.drop (k + 1)), bk := (wE K H1 D).nx, rt := (wE K H1 D).rt } _ _ ⟨fun δ3 h3 σ3 H3 s3 ok3 => ?_, fun z h3 => wV.mono (s.trans s2) h3, fun z h3 => wN.mono (s.trans s2) h3, fun δ3 h3 σ3 H3 s3 ok3 => ?_⟩ h⟩
  · exact ⟨δ3, (s.trans s2).trans s3, ok3, h3⟩
  · exact ⟨δ3, (s.trans s2).trans s3, ok3, h3⟩
theorem Pf.done {K : PySem.W.Frag} {i : Nat} {D : Ends} {H1 : Hp} {ds : List PyData} {k : Nat} {σ : L2.St} {H : Hp} (p : Pf K i tb D H1 ds k σ H) (hk : ds.length ≤ k) : D.nx σ H := by
  obtain ⟨δ, s, ok, h⟩ := p
  rw [List.drop_eq_nil_of_le hk] at h
  exact h σ H s ok
theorem pds_forL {i : Nat} {x : Str} {px : Pos} (hp : PassesOwn (model X.prog X.w) X.A X.env X.xe) (hc : X.calm = true) (hN : X.N.Nodup) (h : PD X e te) (hb : PDSs X body tb) (hi : X.N[i]? = some x := by rfl) (hx : Loc X.env.scope x := by first | exact Or.inl rfl | exact Or.inr rfl)
    (hf : X.fn x = true ∨ X.env.scope.names.lookup x = some .local := by first | exact .inl rfl | exact .inr rfl) (hs : ∀ z, foldedSetIterable e X.env z = pure z := by intro _; rfl) : PDS X (.For (.Name x px) e body [] pos) (dForL i te tb) := by
  refine ⟨PS.imp (ps_for hp hc (pi_list h.run) (pg_name hN hi hx hf) hb.run hs) fun D σ H ⟨δ, ok, q⟩ => ?_, fun E E' δ l q => h.mo δ _ _ (fun d hd => ?_) q⟩
  · refine ⟨δ, ok, h.mo δ _ _ (fun d hd v H1 s1 r1 => ?_) q⟩
    obtain ⟨ds, rfl, hd⟩ := lstK_inv hd
    obtain ⟨a, xs, rfl, sa, ra⟩ := r1.lst_inv
    refine ⟨a, rfl, ⟨xs, SqL.of sa⟩, for_list (K := X.K) (xs := xs) (Pf X.K i tb D H1 ds) ⟨δ, Same.refl _, ok.mono s1, forR_mo hb.mo (wE.mono s1 D) _ _ hd⟩ (fun k σ' H' _ p => ?_) (fun k x σ' H' hx p => ?_) (fun σ' H' p => p.done (by rw [ra.length]; exact Nat.le_refl _))⟩
    · obtain ⟨_, s, _⟩ := p
      exact SqL.of (s _ _ sa)
    · obtain ⟨d, hd, rd⟩ := ra.get' hx
      exact p.turn hb.mo hd (Same.refl _) (rd.mono (let ⟨_, s, _⟩ := p; s))
  · obtain ⟨ds, rfl, hd⟩ := lstK_inv hd
    exact forR_mo hb.mo l _ _ hd
theorem pds_forT {i : Nat} {x : Str} {px : Pos} (hp : PassesOwn (model X.prog X.w) X.A X.env X.xe) (hc : X.calm = true) (hN : X.N.Nodup) (h : PD X e te) (hb : PDSs X body tb) (hi : X.N[i]? = some x := by rfl) (hx : Loc X.env.scope x := by first | exact Or.inl rfl | exact Or.inr rfl)
    (hf : X.fn x = true ∨ X.env.scope.names.lookup x = some .local := by first | exact .inl rfl | exact .inr rfl) (hs : ∀ z, foldedSetIterable e X.env z = pure z := by intro _; rfl) : PDS X (.For (.Name x px) e body [] pos) (dForT i te tb) := by
  refine ⟨PS.imp (ps_for hp hc (pi_tup h.run) (pg_name hN hi hx hf) hb.run hs) fun D σ H ⟨δ, ok, q⟩ => ?_, fun E E' δ l q => h.mo δ _ _ (fun d hd => ?_) q⟩
  · refine ⟨δ, ok, h.mo δ _ _ (fun d hd v H1 s1 r1 => ?_) q⟩
    obtain ⟨ds, rfl, hd⟩ := tupK_inv hd
    obtain ⟨a, xs, rfl, sa, ra⟩ := r1.tup_inv
    refine ⟨a, rfl, ⟨xs, sa⟩, for_tup (K := X.K) (xs := xs) (Pf X.K i tb D H1 ds) ⟨δ, Same.refl _, ok.mono s1, forR_mo hb.mo (wE.mono s1 D) _ _ hd⟩ (fun k σ' H' _ p => ?_) (fun k x σ' H' hx p => ?_) (fun σ' H' p => p.done (by rw [ra.length]; exact Nat.le_refl _))⟩
    · obtain ⟨_, s, _⟩ := p
      exact Same.seqT s sa
    · obtain ⟨d, hd, rd⟩ := ra.get' hx
      exact p.turn hb.mo hd (Same.refl _) (rd.mono (let ⟨_, s, _⟩ := p; s))
  · obtain ⟨ds, rfl, hd⟩ := tupK_inv hd
    exact forR_mo hb.mo l _ _ hd
theorem rangeD_get {n k : Nat} (h : k < n) : (rangeD n)[k]? = some (.int (k : Int)) := by
  unfold rangeD
  rw [List.getElem?_map, List.getElem?_range h]
  rfl
theorem rangeD_len {n : Nat} : (rangeD n).length = n := by unfold rangeD; simp
theorem pds_forN {i : Nat} {x : Str} {px p cpos : Pos} (hp : PassesOwn (model X.prog X.w) X.A X.env X.xe) (hc : X.calm = true) (hN : X.N.Nodup) (hg : Gl X "range") (hm : X.mg "range" = none) (h : PD X e te) (hb : PDSs X body tb) (hi : X.N[i]? = some x := by rfl) (hx : Loc X.env.scope x := by first | exact Or.inl rfl | exact Or.inr rfl)
    (hf : X.fn x = true ∨ X.env.scope.names.lookup x = some .local := by first | exact .inl rfl | exact .inr rfl) (hs : ∀ z, foldedSetIterable (.Call (.Name "range" p) [e] [] cpos) X.env z = pure z := by intro _; rfl) (hse : starEach [e] X.env = [(false, eval e X.env)] := by rfl) : PDS X (.For (.Name x px) (.Call (.Name "range" p) [e] [] cpos) body [] pos) (dForN i te tb) := by
  refine ⟨PS.imp (ps_for hp hc (pi_range1 hg hm (pa_cons h.run pa_nil hse) hse) (pg_name hN hi hx hf) hb.run hs) fun D σ H ⟨δ, ok, q⟩ => ?_, fun E E' δ l q => h.mo δ _ _ (fun d hd => ?_) q⟩
  · refine ⟨δ, ok, h.mo δ _ _ (fun d hd v H1 s1 r1 => ?_) q⟩
    cases d <;> first
      | exact hd.elim
      | (obtain ⟨⟨b1, b2⟩, hd⟩ := hd
         have e := r1.int_inv
         subst e
         refine ⟨_, rfl, b1, b2, for_range (lo := 0) (Pf X.K i tb D H1 (rangeD _)) ⟨δ, Same.refl _, ok.mono s1, forR_mo hb.mo (wE.mono s1 D) _ _ hd⟩ (fun k σ' H' hk p => ?_) (fun σ' H' p => p.done (by rw [rangeD_len]; exact Nat.le_refl _))⟩
         exact p.turn hb.mo (rangeD_get hk) (Same.refl _) (by rw [Int.zero_add]; exact .int _))
  · cases d <;> first | exact hd.elim | exact ⟨hd.1, forR_mo hb.mo l _ _ hd.2⟩
theorem pds_forS {i : Nat} {x : Str} {px : Pos} (hp : PassesOwn (model X.prog X.w) X.A X.env X.xe) (hc : X.calm = true) (hN : X.N.Nodup) (h : PD X e te) (hb : PDSs X body tb) (hi : X.N[i]? = some x := by rfl) (hx : Loc X.env.scope x := by first | exact Or.inl rfl | exact Or.inr rfl)
    (hf : X.fn x = true ∨ X.env.scope.names.lookup x = some .local := by first | exact .inl rfl | exact .inr rfl) (hs : ∀ z, foldedSetIterable e X.env z = pure z := by intro _; rfl) : PDS X (.For (.Name x px) e body [] pos) (dForS i te tb) := by
  refine ⟨PS.imp (ps_for hp hc (pi_str h.run) (pg_name hN hi hx hf) hb.run hs) fun D σ H ⟨δ, ok, q⟩ => ?_, fun E E' δ l q => h.mo δ _ _ (fun d hd => ?_) q⟩
  · refine ⟨δ, ok, h.mo δ _ _ (fun d hd v H1 s1 r1 => ?_) q⟩
    cases d <;> first
      | exact hd.elim
      | (rename_i z
         have e := r1.str_inv
         subst e
         have hlen : (signs z).length = z.cps.size := by unfold signs; simp
         refine ⟨z, rfl, fun k m σ' H' => m = z.cps.size - k ∧ k ≤ z.cps.size ∧ Pf X.K i tb D H1 (signs z) k σ' H', ⟨z.cps.size, rfl, Nat.zero_le _, ⟨δ, Same.refl _, ok.mono s1, forR_mo hb.mo (wE.mono s1 D) _ _ hd⟩⟩, ?_⟩
         rintro k m σ' H' ⟨rfl, hk, p⟩
         by_cases hlt : k < z.cps.size
         · refine .inr ⟨hlt, Pf X.K i tb D H1 (signs z) (k + 1), fun σ2 H2 p2 => ⟨z.cps.size - (k + 1), by omega, rfl, hlt, p2⟩, ?_⟩
           rintro v H2 ⟨rfl, c, hcc, rfl⟩
           refine p.turn hb.mo (d := .str ⟨#[c]⟩) ?_ (Same.refl _) (.str _)
           unfold signs
           rw [List.getElem?_map, Array.getElem?_toList, hcc]
           rfl
         · exact .inl ⟨by show z.cps.size ≤ k; omega, p.done (by rw [hlen]; omega)⟩)
  · cases d <;> first | exact hd.elim | exact forR_mo hb.mo l _ _ hd
end
/-! ### while -/
def dWhile (c : TDT) (tb : TDS) : TDS := fun E δ => ∃ W : Nat → Dn → Prop, (∃ m, W m δ) ∧ ∀ m δ, W m δ → c δ fun b => if b = true then tb { E with nx := fun δ' => ∃ m', m' < m ∧ W m' δ', ct := fun δ' => ∃ m', m' < m ∧ W m' δ', bk := E.nx } δ else E.nx δ
theorem pds_while {X : Cx} {c : Expr} {body : List Stmt} {tc : TDT} {tb : TDS} {pos : Pos} (hp : PassesOwn (model X.prog X.w) X.A X.env X.xe) (hc : PDT X c tc) (hb : PDSs X body tb) : PDS X (.While c body [] pos) (dWhile tc tb) := by
  refine ⟨PS.imp (ps_while hp hc.run hb.run) fun D σ H ⟨δ, ok, W, ⟨m0, w0⟩, q⟩ => ?_, fun E E' δ l ⟨W, w0, q⟩ => ⟨W, w0, fun m δ w => hc.mo δ _ _ (fun k h => ?_) (q m δ w)⟩⟩
  · refine ⟨fun m σ' H' => ∃ δ', Same H H' ∧ EnvOk X.K H' δ' σ' ∧ W m δ', ⟨m0, δ, Same.refl H, ok, w0⟩, ?_⟩
    rintro m σ1 H1 ⟨δ1, s1, ok1, w1⟩
    refine ⟨δ1, ok1, hc.mo δ1 _ _ (fun k h H2 s2 => ?_) (q m δ1 w1)⟩
    cases k with
    | true =>
      refine iteT ⟨fun σ' H' => ∃ m', m' < m ∧ ∃ δ', Same H H' ∧ EnvOk X.K H' δ' σ' ∧ W m' δ', fun σ' H' z => z, δ1, ok1.mono s2, ?_⟩
      have h := show tb { wE X.K H D with nx := fun δ' => ∃ m', m' < m ∧ W m' δ', ct := fun δ' => ∃ m', m' < m ∧ W m' δ', bk := (wE X.K H D).nx } δ1 by simpa using h
      refine hb.mo { wE X.K H D with nx := fun δ' => ∃ m', m' < m ∧ W m' δ', ct := fun δ' => ∃ m', m' < m ∧ W m' δ', bk := (wE X.K H D).nx } _ δ1 ⟨fun δ3 h3 σ3 H3 s3 ok3 => ?_, fun z h3 => wV.mono (s1.trans s2) h3, fun z h3 => wN.mono (s1.trans s2) h3, fun δ3 h3 σ3 H3 s3 ok3 => ?_⟩ h
      · obtain ⟨m', l, w⟩ := h3
        exact ⟨m', l, δ3, (s1.trans s2).trans s3, ok3, w⟩
      · obtain ⟨m', l, w⟩ := h3
        exact ⟨m', l, δ3, (s1.trans s2).trans s3, ok3, w⟩
    | false =>
      have h := show wN X.K H D.nx δ1 by simpa [wE] using h
      exact iteF (h σ1 H2 (s1.trans s2) (ok1.mono s2))
  · cases k with
    | true => exact iteT (hb.mo { E with nx := fun δ' => ∃ m', m' < m ∧ W m' δ', ct := fun δ' => ∃ m', m' < m ∧ W m' δ', bk := E.nx } _ δ ⟨fun _ h => h, l.rt, l.nx, fun _ h => h⟩ (by simpa using h))
    | false => exact iteF (l.nx _ (by simpa using h))
end Mb
set_option Elab.async false
set_option linter.all false
set_option maxRecDepth 100000
set_option maxHeartbeats 4000000
namespace Mb
open PySem PySem.Spec PyProof.Rows L2
/-! ### zip -/
section
variable {X : Cx} {body : List Stmt} {tb : TDS} {e e2 : Expr} {pos : Pos}
def Pf2 (K : PySem.W.Frag) (i j : Nat) (tb : TDS) (D : Ends) (H1 : Hp) (ds es : List PyData) (k : Nat) (σ : L2.St) (H : Hp) : Prop := ∃ δ, Same H1 H ∧ EnvOk K H δ σ ∧ forR2 i j tb (wE K H1 D) (ds.drop k) (es.drop k) δ
theorem pds_forZ {i j : Nat} {ta : TDA} {es : List Expr} {kk : Nat} {p tpos cpos : Pos} (hp : PassesOwn (model X.prog X.w) X.A X.env X.xe) (hc : X.calm = true) (hg : Gl X "zip") (hm : X.mg "zip" = none) (hn : PGs X es (gNames [i, j])) (h : PDA X [e, e2] ta) (hb : PDSs X body tb)
    (hl : (assignEach es X.env).length = 2 := by rfl) (hst : (assignEach es X.env).findIdx? (·.1) = none := by rfl) (hs : ∀ z, foldedSetIterable (.Call (.Name "zip" p) [e, e2] [] cpos) X.env z = pure z := by intro _; rfl)
    (hse : starEach [e, e2] X.env = (false, eval e X.env) :: starEach [e2] X.env := by rfl) (hpl : (backTo cpos (starEach [e2] X.env)).any (·.1) = false := by rfl) : PDS X (.For (.Tuple es kk tpos) (.Call (.Name "zip" p) [e, e2] [] cpos) body [] pos) (dForZ i j ta tb) := by
  refine ⟨PS.imp (ps_for hp hc (pi_zip hg hm h.run hse hpl) (pg_tup hc hn hl hst) hb.run hs) fun D σ H ⟨δ, ok, q⟩ => ?_, fun E E' δ l q => h.mo δ _ _ (fun d hd => ?_) q⟩
  · refine ⟨δ, ok, h.mo δ _ _ (fun d hd v H1 s1 r1 => ?_) q⟩
    split at hd
    · rename_i ds es
      obtain ⟨hlen, hd⟩ := hd
      cases r1 with
      | cons r1 t =>
        cases t with
        | cons r2 t =>
          cases t
          obtain ⟨a, xs, rfl, sa, ra⟩ := r1.lst_inv
          obtain ⟨b, ys, rfl, sb, rb⟩ := r2.lst_inv
          have hxy : xs.length = ys.length := by rw [ra.length, rb.length]; exact hlen
          refine ⟨a, b, xs, ys, rfl, SqL.of sa, SqL.of sb, RZ.for_zipL (K := X.K) (xs := xs) (ys := ys) hxy (Pf2 X.K i j tb D H1 ds es) ⟨δ, Same.refl _, ok.mono s1, forR2_mo hb.mo (wE.mono s1 D) _ _ _ hd⟩ (fun k σ' H' p => ?_) (fun k x y T σ' H' hx hy p hT => ?_) (fun σ' H' p => ?_)⟩
          · obtain ⟨_, s, _⟩ := p
            exact ⟨SqL.of (s _ _ sa), SqL.of (s _ _ sb)⟩
          · obtain ⟨d, hd, rd⟩ := ra.get' hx
            obtain ⟨e, he, re⟩ := rb.get' hy
            obtain ⟨δ', s, ok', h'⟩ := p
            rw [drop_cons hd, drop_cons he] at h'
            have s2 := same_upd (o := .tup [x, y]) hT
            refine ⟨T, [x, y], rfl, SqT.of upd_same, rfl, x, [y], rfl, y, [], rfl, rfl, ?_⟩
            refine ⟨_, ((ok'.mono s2).set (rd.mono (s.trans s2)) i).set (re.mono (s.trans s2)) j, hb.mo { nx := forR2 i j tb (wE X.K H1 D) (ds.drop (k + 1)) (es.drop (k + 1)), ct := forR2 i j tb (wE X.K H1 D) (ds.drop (k + 1)) (es.drop (k + 1)), bk := (wE X.K H1 D).nx, rt := (wE X.K H1 D).rt } _ _ ⟨fun δ3 h3 σ3 H3 s3 ok3 => ?_, fun z h3 => wV.mono (s.trans s2) h3, fun z h3 => wN.mono (s.trans s2) h3, fun δ3 h3 σ3 H3 s3 ok3 => ?_⟩ h'⟩
            · exact ⟨δ3, (s.trans s2).trans s3, ok3, h3⟩
            · exact ⟨δ3, (s.trans s2).trans s3, ok3, h3⟩
          · obtain ⟨δ', s, ok', h'⟩ := p
            rw [List.drop_eq_nil_of_le (by rw [ra.length]; exact Nat.le_refl _)] at h'
            unfold forR2 at h'
            exact h' σ' H' s ok'
    · exact hd.elim
  · split at hd
    · exact ⟨hd.1, forR2_mo hb.mo l _ _ _ hd.2⟩
    · exact hd.elim
end
/-! ### comprehensions -/
def compR (i : Nat) (tt : TDT) (te : TD) (δ : Dn) (Q : List PyData → Prop) : List PyData → List PyData → Prop
  | [], acc => Q acc
  | d :: ds, acc => tt (δ.set i (some d)) fun b => if b = true then te (δ.set i (some d)) fun y => acc.length < 1000 ∧ compR i tt te δ Q ds (acc ++ [y]) else compR i tt te δ Q ds acc
theorem compR_mo {i : Nat} {tt : TDT} {te : TD} (mt : MoT tt) (me : MoE te) {δ : Dn} {Q Q' : List PyData → Prop} (m : ∀ z, Q z → Q' z) : ∀ (ds acc : List PyData), compR i tt te δ Q ds acc → compR i tt te δ Q' ds acc
  | [], acc, h => m _ h
  | d :: ds, acc, h => mt _ _ _ (fun b hb => by
    cases b with
    | true => exact iteT (me _ (fun y => acc.length < 1000 ∧ compR i tt te δ Q ds (acc ++ [y])) _ (fun y hy => ⟨hy.1, compR_mo mt me m ds _ hy.2⟩) (by simpa using hb))
    | false => exact iteF (compR_mo mt me m ds _ (by simpa using hb))) h
def dLcL (i : Nat) (src : TD) (tt : TDT) (te : TD) : TD := fun δ Q => src δ fun d => lstK d fun ds => compR i tt te (δ.set i none) (fun r => Q (.list r)) ds []
def dLcT (i : Nat) (src : TD) (tt : TDT) (te : TD) : TD := fun δ Q => src δ fun d => tupK d fun ds => compR i tt te (δ.set i none) (fun r => Q (.list r)) ds []
def dLcN (i : Nat) (src : TD) (tt : TDT) (te : TD) : TD := fun δ Q => src δ fun d => match d with
  | .int j => (-(2 ^ 62) ≤ j ∧ j < 2 ^ 62) ∧ compR i tt te (δ.set i none) (fun r => Q (.list r)) (rangeD j.toNat) []
  | _ => False
def dYes : TDT := fun _ Q => Q true
/-- all but what stands at D -/
def hid (H : Hp) (D : Addr) : Hp := fun b => if b = D then none else H b
theorem hid_ne {H : Hp} {D b : Addr} (h : b ≠ D) : hid H D b = H b := by unfold hid; rw [if_neg h]
theorem hid_same (H : Hp) (D : Addr) : Same (hid H D) H := fun b o e => by
  unfold hid at e
  split at e
  · cases e
  · exact e
theorem hid_upd {H : Hp} {D : Addr} {o : HO} : hid (upd H D o) D = hid H D := by
  funext b
  unfold hid upd
  split
  · rfl
  · rename_i h
    rfl
theorem hid_mono {H H' : Hp} {D : Addr} (s : ∀ b o, b ≠ D → H b = some o → H' b = some o) : Same (hid H D) (hid H' D) := fun b o e => by
  by_cases hb : b = D
  · subst hb; unfold hid at e; rw [if_pos rfl] at e; cases e
  · rw [hid_ne hb] at e ⊢; exact s b o hb e
section
variable {K : PySem.W.Frag} {H : Hp} {D : Addr} {od : Obj} {l : List V}
theorem rd_hid {a : Addr} {xs : List V} (hD : H D = some (.frz od (.lst l))) (h : SqT K H a xs) : SqT K (hid H D) a xs := by
  have ne : ∀ o, H a = some o → o ≠ .frz od (.lst l) → a ≠ D := fun o e n z => by subst z; rw [hD] at e; exact n (Option.some.inj e).symm
  rcases h with (h | ⟨o, h⟩) | h
  · exact .inl (.inl (by rw [hid_ne (ne _ h (fun z => nomatch z))]; exact h))
  · exact .inl (.inr ⟨o, by rw [hid_ne (ne _ h (fun z => nomatch z))]; exact h⟩)
  · exact .inr h
mutual
theorem Rp.hid (hD : H D = some (.frz od (.lst l))) : ∀ {v : V} {d : PyData}, Rp K H v d → Rp K (Mb.hid H D) v d
  | _, _, .non => .non
  | _, _, .bl b => .bl b
  | _, _, .int i => .int i
  | _, _, .str x => .str x
  | _, _, .lst (a := a) h t => .lst (by rw [hid_ne (by intro z; subst z; rw [hD] at h; cases h)]; exact h) (RpAll.hid hD t)
  | _, _, .tup h t => .tup (rd_hid hD h) (RpAll.hid hD t)
  | _, _, .dic (a := a) h t => .dic (by rw [hid_ne (by intro z; subst z; rw [hD] at h; cases h)]; exact h) (RpKvs.hid hD t)
theorem RpAll.hid (hD : H D = some (.frz od (.lst l))) : ∀ {vs : List V} {ds : List PyData}, RpAll K H vs ds → RpAll K (Mb.hid H D) vs ds
  | _, _, .nil => .nil
  | _, _, .cons h t => .cons (Rp.hid hD h) (RpAll.hid hD t)
theorem RpKvs.hid (hD : H D = some (.frz od (.lst l))) : ∀ {vs : List (Key × V)} {ds : List (PyData × PyData)}, RpKvs K H vs ds → RpKvs K (Mb.hid H D) vs ds
  | _, _, .nil => .nil
  | _, _, .cons h t => .cons (Rp.hid hD h) (RpKvs.hid hD t)
end
end
theorem wipe_one (σ : L2.St) (i : Nat) : L2.wipe σ [i] = σ.set i none := rfl
section
variable {K : PySem.W.Frag}
/-- what holds between two turns of a comprehension: D the new list -/
def Pc (K : PySem.W.Frag) (i : Nat) (tt : TDT) (te : TD) (δ : Dn) (Q : List PyData → Prop) (H1 : Hp) (D : Addr) (ds : List PyData) (k : Nat) (H : Hp) : Prop := ∃ acc accd, Same H1 H ∧ H D = some (.lst acc) ∧ RpAll K (hid H D) acc accd ∧ compR i tt te δ Q (ds.drop k) accd
theorem Pc.turn {i : Nat} {tt : TDT} {te : TD} (mt : MoT tt) (me : MoE te) {δ : Dn} {σ : L2.St} {Q : List PyData → Prop} {H1 : Hp} {D : Addr} (nD : H1 D = none) (ok : EnvOk K H1 δ σ) {ds : List PyData} {k : Nat} {H : Hp} (p : Pc K i tt te (δ.set i none) Q H1 D ds k H) {x : V} {d : PyData} (hd : ds[k]? = some d) (r : Rp K H1 x d) :
    gName i x (L2.wipe σ [i]) H fun σ2 H2 => L2.wipe σ2 [i] = L2.wipe σ [i] ∧ lT K tt σ2 H2 fun b H3 => if b = true then tLockE (lE K te) σ2 H3 fun y H4 => ∃ acc, H4 D = some (.lst acc) ∧ acc.length < sizeLine ∧ Pc K i tt te (δ.set i none) Q H1 D ds (k + 1) (upd H4 D (.lst (acc ++ [y]))) else Pc K i tt te (δ.set i none) Q H1 D ds (k + 1) H3 := by
  obtain ⟨acc, accd, s, hD, ra, h⟩ := p
  rw [drop_cons hd] at h
  refine ⟨?_, (δ.set i none).set i (some d), ?_, mt _ _ _ (fun b hb H3 s3 => ?_) h⟩
  · rw [wipe_one, wipe_one, List.set_set, List.set_set]
  · rw [wipe_one]
    exact ((ok.mono s).wipe1 i).set (r.mono s) i
  · have hD3 : H3 D = some (.lst acc) := s3 _ _ hD
    have ra3 : RpAll K (hid H3 D) acc accd := ra.mono (hid_mono fun b o _ e => s3 b o e)
    cases b with
    | true =>
      refine iteT ⟨D, _, hD3, trivial, fun od => ?_⟩
      have fz : Same H1 (upd H3 D (.frz od (.lst acc))) := fun b o e => by
        rw [upd_ne (ne_of_none e nD)]
        exact s3 _ _ (s _ _ e)
      refine ⟨(δ.set i none).set i (some d), ?_, me _ _ _ (fun y hy v H4 s4 r4 => ?_) (by simpa using hb)⟩
      · rw [wipe_one]
        exact ((ok.mono fz).wipe1 i).set (r.mono fz) i
      · have hD4 : H4 D = some (.frz od (.lst acc)) := s4 _ _ upd_same
        refine ⟨hD4, acc, upd_same, ?_, acc ++ [v], accd ++ [y], ?_, upd_same, ?_, hy.2⟩
        · rw [ra.length]; exact small1000 (Nat.le_of_lt hy.1)
        · intro b o e
          rw [upd_ne (ne_of_none e nD), upd_ne (ne_of_none e nD)]
          exact s4 _ _ (fz _ _ e)
        · rw [hid_upd, hid_upd]
          refine RpAll.snoc (ra3.mono (hid_mono fun b o hb e => s4 b o (by rw [upd_ne hb]; exact e))) (Rp.hid hD4 r4)
    | false => exact iteF ⟨acc, accd, s.trans s3, hD3, ra3, by simpa using hb⟩
theorem Pc.done {i : Nat} {tt : TDT} {te : TD} {δ : Dn} {H0 H1 : Hp} {D : Addr} {Q : VK} {ds : List PyData} {k : Nat} {H : Hp} (s0 : Same H0 H1) (p : Pc K i tt te δ (fun r => wV K H0 Q (.list r)) H1 D ds k H) (hk : ds.length ≤ k) : Q (.ref D) H := by
  obtain ⟨acc, accd, s, hD, ra, h⟩ := p
  rw [List.drop_eq_nil_of_le hk] at h
  exact wV.at (show wV K H0 Q _ from h) (s0.trans s) (.lst hD (ra.mono (hid_same H D)))
end
section
variable {X : Cx} {elt iter c : Expr} {scope : Scope} {x y : Str} {px pos spos py : Pos} {src te : TD} {tt : TDT} {ifs : List Expr} {i j : Nat}
theorem lcL_lift (hi : PD X iter src) (mt : MoT tt) (me : MoE te) (σ : L2.St) (H : Hp) (Q : VK) (h : lE X.K (dLcL i src tt te) σ H Q) : tLc (iList X.K (lE X.K src)) (gName i) (lT X.K tt) (tLockE (lE X.K te)) [i] σ H Q := by
  obtain ⟨δ, ok, q⟩ := h
  refine ⟨δ, ok, hi.mo δ _ _ (fun d hd v H1 s1 r1 => ?_) q⟩
  obtain ⟨ds, rfl, hd⟩ := lstK_inv hd
  obtain ⟨a, xs, rfl, sa, ra⟩ := r1.lst_inv
  refine ⟨a, rfl, ⟨xs, SqL.of sa⟩, fun D hD => lc_list (K := X.K) (xs := xs) (Pc X.K i tt te (δ.set i none) (fun r => wV X.K H Q (.list r)) H1 D ds) ⟨[], [], same_upd hD, upd_same, .nil, hd⟩ (fun k H' _ p => ?_) (fun k x H' hx p => ?_) (fun H' p => p.done s1 (by rw [ra.length]; exact Nat.le_refl _))⟩
  · obtain ⟨_, _, s, _⟩ := p
    exact SqL.of (s _ _ sa)
  · obtain ⟨d, hd, rd⟩ := ra.get' hx
    exact p.turn mt me hD (ok.mono s1) hd rd
theorem lcT_lift (hi : PD X iter src) (mt : MoT tt) (me : MoE te) (σ : L2.St) (H : Hp) (Q : VK) (h : lE X.K (dLcT i src tt te) σ H Q) : tLc (iTup X.K (lE X.K src)) (gName i) (lT X.K tt) (tLockE (lE X.K te)) [i] σ H Q := by
  obtain ⟨δ, ok, q⟩ := h
  refine ⟨δ, ok, hi.mo δ _ _ (fun d hd v H1 s1 r1 => ?_) q⟩
  obtain ⟨ds, rfl, hd⟩ := tupK_inv hd
  obtain ⟨a, xs, rfl, sa, ra⟩ := r1.tup_inv
  refine ⟨a, rfl, ⟨xs, sa⟩, fun D hD => lc_tup (K := X.K) (xs := xs) (Pc X.K i tt te (δ.set i none) (fun r => wV X.K H Q (.list r)) H1 D ds) ⟨[], [], same_upd hD, upd_same, .nil, hd⟩ (fun k H' _ p => ?_) (fun k x H' hx p => ?_) (fun H' p => p.done s1 (by rw [ra.length]; exact Nat.le_refl _))⟩
  · obtain ⟨_, _, s, _⟩ := p
    exact Same.seqT s sa
  · obtain ⟨d, hd, rd⟩ := ra.get' hx
    exact p.turn mt me hD (ok.mono s1) hd rd
theorem lcN_lift (hi : PD X iter src) (mt : MoT tt) (me : MoE te) (σ : L2.St) (H : Hp) (Q : VK) (h : lE X.K (dLcN i src tt te) σ H Q) : tLc (iRng1 (tCons (lE X.K src) tNil)) (gName i) (lT X.K tt) (tLockE (lE X.K te)) [i] σ H Q := by
  obtain ⟨δ, ok, q⟩ := h
  refine ⟨δ, ok, hi.mo δ _ _ (fun d hd v H1 s1 r1 => ?_) q⟩
  cases d <;> first
    | exact hd.elim
    | (obtain ⟨⟨b1, b2⟩, hd⟩ := hd
       have e := r1.int_inv
       subst e
       refine ⟨_, rfl, b1, b2, fun D hD => lc_range (lo := 0) (Pc X.K i tt te (δ.set i none) (fun r => wV X.K H Q (.list r)) H1 D (rangeD _)) ⟨[], [], same_upd hD, upd_same, .nil, hd⟩ (fun k H' hk p => ?_) (fun H' p => p.done s1 (by rw [rangeD_len]; exact Nat.le_refl _))⟩
       exact p.turn mt me hD (ok.mono s1) (rangeD_get hk) (by rw [Int.zero_add]; exact .int _))
theorem dLcL_mo (ms : MoE src) (mt : MoT tt) (me : MoE te) : MoE (dLcL i src tt te) := fun δ P P' m h => ms δ _ _ (fun d hd => by
  obtain ⟨ds, rfl, hd⟩ := lstK_inv hd
  exact compR_mo mt me (fun z hz => m _ hz) _ _ hd) h
theorem dLcT_mo (ms : MoE src) (mt : MoT tt) (me : MoE te) : MoE (dLcT i src tt te) := fun δ P P' m h => ms δ _ _ (fun d hd => by
  obtain ⟨ds, rfl, hd⟩ := tupK_inv hd
  exact compR_mo mt me (fun z hz => m _ hz) _ _ hd) h
theorem dLcN_mo (ms : MoE src) (mt : MoT tt) (me : MoE te) : MoE (dLcN i src tt te) := fun δ P P' m h => ms δ _ _ (fun d hd => by
  cases d <;> first | exact hd.elim | exact ⟨hd.1, compR_mo mt me (fun z hz => m _ hz) _ _ hd.2⟩) h
/-- the tests of a comprehension -/
structure PDTs (X : Cx) (ifs : List Expr) (t : TDT) : Prop where
  run : PTs X ifs (lT X.K t)
  mo : MoT t
theorem PTs.imp {t t' : TT} (h : PTs X ifs t) (w : ∀ σ H Q, t' σ H Q → t σ H Q) : PTs X ifs t' := ⟨fun pins s σ H Q I q => h.run pins s σ H Q I (w _ _ _ q)⟩
theorem pdts_nil : PDTs X [] dYes := ⟨PTs.imp pts_nil fun σ H Q ⟨δ, ok, q⟩ => q H (Same.refl H), fun _ _ _ m h => m _ h⟩
theorem pdts_one (h : PDT X c tt) : PDTs X [c] tt := ⟨pts_one h.run, h.mo⟩
abbrev Blk (X : Cx) (scope : Scope) (F : Cx → Prop) : Prop := ∀ (s : Shared) (H : Hp) (C : Addr) (cl : List (Str × Addr)) (fp : List Addr), F (X.blk s H scope (compEnvC scope cl C X.env) fp)
theorem blk_mo (h : Blk X scope fun Y => PD Y elt te) (s : Shared) (H : Hp) : MoE te := (h s H 0 [] []).mo
theorem blk_mt (h : Blk X scope fun Y => PDTs Y ifs tt) (s : Shared) (H : Hp) : MoT tt := (h s H 0 [] []).mo
variable (hc : X.calm = true) (hN : X.N.Nodup) (ok : BlkOk X.N X.env.scope scope [(x, j)])
variable (hg : Blk X scope fun Y => PG Y (.Name x px) (gName j)) (ht : Blk X scope fun Y => PDTs Y ifs tt) (he : Blk X scope fun Y => PD Y elt te)
include hc hN ok hg ht he
theorem pd_lcL (hi : PD X iter src) (hs : ∀ x, foldedSetIterable iter X.env x = pure x := by intro _; rfl) : PD X (.ListComp elt [⟨.Name x px, iter, ifs, 0⟩] scope pos) (dLcL j src tt te) :=
  have me := blk_mo he X.s_0 X.H_0
  have mt := blk_mt ht X.s_0 X.H_0
  ⟨PE.imp (pe_lc (own := [(x, j)]) hc hN (pi_list hi.run) ok hg (fun s H C cl fp => (ht s H C cl fp).run) (fun s H C cl fp => pe_lock (he s H C cl fp).run) hs) (lcL_lift hi mt me), dLcL_mo hi.mo mt me⟩
theorem pd_lcT (hi : PD X iter src) (hs : ∀ x, foldedSetIterable iter X.env x = pure x := by intro _; rfl) : PD X (.ListComp elt [⟨.Name x px, iter, ifs, 0⟩] scope pos) (dLcT j src tt te) :=
  have me := blk_mo he X.s_0 X.H_0
  have mt := blk_mt ht X.s_0 X.H_0
  ⟨PE.imp (pe_lc (own := [(x, j)]) hc hN (pi_tup hi.run) ok hg (fun s H C cl fp => (ht s H C cl fp).run) (fun s H C cl fp => pe_lock (he s H C cl fp).run) hs) (lcT_lift hi mt me), dLcT_mo hi.mo mt me⟩
theorem pd_lcN {p cpos : Pos} (hgr : Gl X "range") (hm : X.mg "range" = none) (hi : PD X iter src) (hse : starEach [iter] X.env = [(false, eval iter X.env)] := by rfl) (hs : ∀ x, foldedSetIterable (.Call (.Name "range" p) [iter] [] cpos) X.env x = pure x := by intro _; rfl) : PD X (.ListComp elt [⟨.Name x px, .Call (.Name "range" p) [iter] [] cpos, ifs, 0⟩] scope pos) (dLcN j src tt te) :=
  have me := blk_mo he X.s_0 X.H_0
  have mt := blk_mt ht X.s_0 X.H_0
  ⟨PE.imp (pe_lc (own := [(x, j)]) hc hN (pi_range1 hgr hm (pa_cons hi.run pa_nil hse) hse) ok hg (fun s H C cl fp => (ht s H C cl fp).run) (fun s H C cl fp => pe_lock (he s H C cl fp).run) hs) (lcN_lift hi mt me), dLcN_mo hi.mo mt me⟩
theorem pds_setLcL (hi : PD X iter src) (hsw : swapsWith (.ListComp elt [⟨.Name x px, iter, ifs, 0⟩] scope pos) (some (.Name y py)) spos.line X.env = pure true) (hy : X.N[i]? = some y := by rfl) (hyl : X.env.scope.names.lookup y = some .local := by rfl) (hs : ∀ x, foldedSetIterable iter X.env x = pure x := by intro _; rfl) :
    PDS X (.Assign [.Name y py] (.ListComp elt [⟨.Name x px, iter, ifs, 0⟩] scope pos) spos) (dSet i (dLcL j src tt te)) :=
  have me := blk_mo he X.s_0 X.H_0
  have mt := blk_mt ht X.s_0 X.H_0
  ⟨PS.imp (ps_setLc (own := [(x, j)]) hc hN hy hyl hsw (pi_list hi.run) ok hg (fun s H C cl fp => (ht s H C cl fp).run) (fun s H C cl fp => pe_lock (he s H C cl fp).run) hs) fun D σ H ⟨δ, ok, q⟩ =>
    lcL_lift hi mt me σ H _ ⟨δ, ok, dLcL_mo hi.mo mt me δ _ _ (fun d hd v H1 s1 r1 => hd _ H1 s1 ((ok.mono s1).set r1 i)) q⟩, fun E E' δ l q => dLcL_mo hi.mo mt me δ _ _ (fun _ h => l.nx _ h) q⟩
end
/-! ### a dict that the top has written -/
structure GTab (w : World) (K : PySem.W.Frag) (mg : Str → Option Value) (x : Str) (f : Str → Option PyData) : Prop where
  ex : ∃ a, mg x = some (.ref a) ∧ ∀ k d, f k = some d → ∃ v, KDct K w a k v ∧ ∀ H, Rp K H v d
def gTab (f : Str → Option PyData) (d : PyData) (Q : PyData → Prop) : Prop := match d with
  | .str k => optK (f k) Q
  | _ => False
theorem gTab_mo {f : Str → Option PyData} : MoU (gTab f) := fun d P P' m h => by
  cases d <;> first | exact h.elim | exact optK_mo m h
theorem pd_tab {X : Cx} {x : Str} {f : Str → Option PyData} {i : Expr} {ti : TD} {p pos : Pos} (T : GTab X.w X.K X.mg x f) (hg : Gl X x) (hi : PD X i ti) (hs : PlainIx i := by exact fun _ _ => rfl) (hdb : (x == ("__debug__" : Str)) = false := by decide) : PD X (.Subscript (.Name x p) i pos) (dUn (gTab f) ti) := by
  obtain ⟨a, hm, hT⟩ := T.ex
  refine ⟨PE.imp (pe_ix ix_kdict (pe_glob (v := .ref a) hg hm rfl hdb) hi.run hs) fun σ H Q ⟨δ, ok, q⟩ => ?_, dUn_mo gTab_mo hi.mo⟩
  refine ⟨δ, ok, hi.mo δ _ _ (fun d hd v H1 s1 r1 => ?_) q⟩
  cases d <;> first
    | exact hd.elim
    | (obtain ⟨z, hz, q⟩ := optK_some hd
       obtain ⟨u, hk, hr⟩ := hT _ _ hz
       exact ⟨a, _, u, rfl, r1.str_inv, hk, wV.at q s1 (hr _)⟩)
theorem pd_glob {X : Cx} {x : Str} {v : V} {u : Value} {d : PyData} {pos : Pos} (hg : Gl X x) (hm : X.mg x = some u) (r : RelV v u) (rd : ∀ H, Rp X.K H v d) (hdb : (x == ("__debug__" : Str)) = false := by decide) : PD X (.Name x pos) (dC d) := pd_c (pe_glob hg hm r hdb) rd
def GVal (mg : Str → Option Value) (x : Str) (v : V) : Prop := ∃ u, mg x = some u ∧ RelV v u
theorem pd_gval {X : Cx} {x : Str} {v : V} {d : PyData} {pos : Pos} (hg : Gl X x) (h : GVal X.mg x v) (rd : ∀ H, Rp X.K H v d) (hdb : (x == ("__debug__" : Str)) = false := by decide) : PD X (.Name x pos) (dC d) :=
  let ⟨_, hm, r⟩ := h; pd_glob hg hm r rd hdb
theorem lk_catL {K : PySem.W.Frag} : Lk2 K rCat gCatL := fun H x y d e Q r1 r2 h => by
  cases d <;> first
    | exact h.elim
    | (cases e <;> first
      | exact h.elim
      | (obtain ⟨h3, q⟩ := h
         obtain ⟨a, xs, rfl, sa, ra⟩ := r1.lst_inv
         obtain ⟨b, ys, rfl, sb, rb⟩ := r2.lst_inv
         refine ⟨a, b, xs, ys, rfl, rfl, sa, sb, by rw [ra.length, rb.length]; exact le_line h3, fun p hp => ?_⟩
         exact q.at (same_upd hp) (.lst upd_same ((ra.append rb).mono (same_upd hp)))))
/-! ### a def -/
structure DefAt (K : PySem.W.Frag) (mg : Str → Option Value) (x : Str) (st : Stmt) : Prop where
  ex : ∃ (f : Addr) (fd : FuncData), mg x = some (.ref f) ∧ PySem.W.keepIn K (.ref f) = true ∧ Fun K x x st f fd
section
variable {P : Program} {w : World} {K : PySem.W.Frag} {mg : Str → Option Value} {base : Heap}
abbrev bodyX (P : Program) (w : World) (K : PySem.W.Frag) (mg : Str → Option Value) (base : Heap) (N : List Str) (x : Str) (st : Stmt) (f : Addr) (cdv : Value) (A : Around) (outer : List Env) (s : Shared) (H : Hp) (E : XK) : Cx := (cxOf CX0 P w K mg base N x (defScope st) f cdv A outer s H E).nox
theorem fn_ok {x : Str} {st : Stmt} {f : Addr} {fd : FuncData} {N ps : List Str} {k n : Nat} {F : Ct} {t : TDS} (Fn : Fun K x x st f fd) (S : FnScope N ps (defScope st)) (hn : ps.length = n)
    (hb : ∀ (cdv : Value) (A : Around) (outer : List Env) (s : Shared) (H : Hp) (E : XK), Room k (A.deeper (envOfC x (defScope st) s.heap.objs.size f cdv)) → PDSs (bodyX P w K mg base N x st f cdv A outer s H E) (defBody st) t)
    (hr : ∀ ds (Q : PyData → Prop), ds.length = n → F ds Q → t { nx := fun _ => Q .none, rt := Q } (startD N.length ds)) : FnOk P w K mg base CX0 (k + 1) f fd ps (spD K n F) := by
  refine Fn.ok S (fun vs H Q E h => ?_) (fun cdv A outer s H vs Q E hroom h => ?_)
  · obtain ⟨ds, r, l, _⟩ := h
    rw [r.length, l, hn]
  · obtain ⟨ds, r, l, q⟩ := h
    have B := hb cdv A outer s H E hroom
    refine ⟨_, B.run, startD N.length ds, rp_start N r, B.mo _ _ _ ⟨fun δ h σ' H' s' ok => ?_, fun d h v H' s' r' => ?_, fun _ (h : False) => h.elim, fun _ (h : False) => h.elim⟩ (hr ds _ l q)⟩
    · exact wV.at h s' .non
    · exact wV.at h s' r'
theorem has_of {x : Str} {st : Stmt} {N ps : List Str} {k n : Nat} {F : Ct} {t : TDS} (D : DefAt K mg x st) (S : FnScope N ps (defScope st)) (hn : ps.length = n)
    (hbind : ∀ (kV doc pm : Value) (an : Option Addr) (cdv ct : Value) (us : List Value), us.length = ps.length → bindArgs (PySem.W.fnOf x x (defArgs st) (defBody st) (defScope st) .none kV doc pm an cdv ct) ⟨us, []⟩ = pure (ps.zip us)) (mo : MoC F)
    (hb : ∀ (f : Addr) (cdv : Value) (A : Around) (outer : List Env) (s : Shared) (H : Hp) (E : XK), Room k (A.deeper (envOfC x (defScope st) s.heap.objs.size f cdv)) → PDSs (bodyX P w K mg base N x st f cdv A outer s H E) (defBody st) t)
    (hr : ∀ ds (Q : PyData → Prop), ds.length = n → F ds Q → t { nx := fun _ => Q .none, rt := Q } (startD N.length ds)) : Has P w K mg base (k + 1) x n F := by
  obtain ⟨f, fd, h1, h2, Fn⟩ := D.ex
  exact ⟨⟨f, fd, ps, h1, h2, Fn.binds hbind, fn_ok Fn S hn (hb f) hr⟩, mo⟩
end
end Mb
set_option Elab.async false
set_option linter.all false
set_option maxRecDepth 100000
namespace Mb
open PySem PySem.Spec PyProof.Rows L2
/-! The readings of the pure defs: printed by gen_der.py. -/
def tabF (l : List (Str × PyData)) (k : Str) : Option PyData := l.lookup k
def l_SORTS : List (Str × PyData) := [("free", .str "point"), ("middle", .str "point"), ("share", .str "point"), ("next", .str "point"), ("turn", .str "point"), ("foot", .str "point"), ("mirror", .str "point"), ("meet", .str "point"), ("cut", .str "point"), ("line", .str "line"), ("along", .str "line"), ("upright", .str "line"), ("circle", .str "circle"), ("inline", .str "claim"), ("round", .str "claim"), ("alike", .str "claim"), ("beside", .str "claim"), ("square", .str "claim")]
def f_SORTS : Str → Option PyData := tabF l_SORTS
def l_ASKED : List (Str × PyData) := [("free", .tuple []), ("middle", .tuple [.str "point", .str "point"]), ("share", .tuple [.str "point", .str "point"]), ("next", .tuple [.str "point", .str "point"]), ("turn", .tuple [.str "point", .str "point"]), ("foot", .tuple [.str "point", .str "line"]), ("mirror", .tuple [.str "point", .str "line"]), ("meet", .tuple [.str "line", .str "line"]), ("cut", .tuple [.str "curve", .str "circle"]), ("line", .tuple [.str "point", .str "point"]), ("along", .tuple [.str "point", .str "line"]), ("upright", .tuple [.str "point", .str "line"]), ("circle", .tuple [.str "point", .str "point"]), ("inline", .tuple [.str "point", .str "point", .str "point"]), ("round", .tuple [.str "point", .str "point", .str "point", .str "point"]), ("alike", .tuple [.str "point", .str "point", .str "point", .str "point"]), ("beside", .tuple [.str "line", .str "line"]), ("square", .tuple [.str "line", .str "line"])]
def f_ASKED : Str → Option PyData := tabF l_ASKED
def t_divisor : TDS :=
  (dSeq (dSet 0 (dUn gAbs (dVar 0)))
    (dSeq (dSet 1 (dUn gAbs (dVar 1)))
    (dSeq (dWhile (dCmpT (cInt fun i j => decide (j < i)) (dVar 1) (dC (.int 0))) (dPar 0 1 (dCons (dVar 1) (dCons (dOp gMod (dVar 0) (dVar 1)) dNil))))
    (dRet (dVar 0)))))
def t_fraction (c_divisor : Ct) : TDS :=
  (dSeq (dIf (dCmpT cEq (dVar 1) (dC (.int 0))) dNever dSkip)
    (dSeq (dSet 2 (dCall 2 c_divisor (dCons (dVar 0) (dCons (dVar 1) dNil))))
    (dSeq (dIf (dCmpT (cInt fun i j => decide (i < j)) (dVar 1) (dC (.int 0))) (dSet 2 (dUn gNeg (dVar 2))) dSkip)
    (dRet (dTup (dCons (dOp gFdiv (dVar 0) (dVar 2)) (dCons (dOp gFdiv (dVar 1) (dVar 2)) dNil)))))))
def t_plus (c_fraction : Ct) : TDS :=
  (dRet (dCall 2 c_fraction (dCons (dOp gAdd (dOp gMul (dOp gIx (dVar 0) (dC (.int 0))) (dOp gIx (dVar 1) (dC (.int 1)))) (dOp gMul (dOp gIx (dVar 1) (dC (.int 0))) (dOp gIx (dVar 0) (dC (.int 1))))) (dCons (dOp gMul (dOp gIx (dVar 0) (dC (.int 1))) (dOp gIx (dVar 1) (dC (.int 1)))) dNil))))
def t_minus (c_fraction : Ct) : TDS :=
  (dRet (dCall 2 c_fraction (dCons (dOp gSub (dOp gMul (dOp gIx (dVar 0) (dC (.int 0))) (dOp gIx (dVar 1) (dC (.int 1)))) (dOp gMul (dOp gIx (dVar 1) (dC (.int 0))) (dOp gIx (dVar 0) (dC (.int 1))))) (dCons (dOp gMul (dOp gIx (dVar 0) (dC (.int 1))) (dOp gIx (dVar 1) (dC (.int 1)))) dNil))))
def t_times (c_fraction : Ct) : TDS :=
  (dRet (dCall 2 c_fraction (dCons (dOp gMul (dOp gIx (dVar 0) (dC (.int 0))) (dOp gIx (dVar 1) (dC (.int 0)))) (dCons (dOp gMul (dOp gIx (dVar 0) (dC (.int 1))) (dOp gIx (dVar 1) (dC (.int 1)))) dNil))))
def t_over (c_fraction : Ct) : TDS :=
  (dRet (dCall 2 c_fraction (dCons (dOp gMul (dOp gIx (dVar 0) (dC (.int 0))) (dOp gIx (dVar 1) (dC (.int 1)))) (dCons (dOp gMul (dOp gIx (dVar 0) (dC (.int 1))) (dOp gIx (dVar 1) (dC (.int 0)))) dNil))))
def t_less : TDS :=
  (dRet (dCmpV (cInt fun i j => decide (i < j)) (dOp gMul (dOp gIx (dVar 0) (dC (.int 0))) (dOp gIx (dVar 1) (dC (.int 1)))) (dOp gMul (dOp gIx (dVar 1) (dC (.int 0))) (dOp gIx (dVar 0) (dC (.int 1))))))
def t_whole_root : TDS :=
  (dSeq (dSet 1 (dC (.int 0)))
    (dSeq (dSet 2 (dC (.int 1)))
    (dSeq (dWhile (dCmpT (cInt fun i j => decide (i ≤ j)) (dOp gMul (dVar 2) (dVar 2)) (dVar 0)) (dSet 2 (dOp gMul (dVar 2) (dC (.int 2)))))
    (dSeq (dWhile (dCmpT (cInt fun i j => decide (j < i)) (dOp gSub (dVar 2) (dVar 1)) (dC (.int 1))) (dSeq (dSet 3 (dOp gFdiv (dOp gAdd (dVar 1) (dVar 2)) (dC (.int 2))))
    (dIf (dCmpT (cInt fun i j => decide (i ≤ j)) (dOp gMul (dVar 3) (dVar 3)) (dVar 0)) (dSet 1 (dVar 3)) (dSet 2 (dVar 3)))))
    (dRet (dVar 1))))))
def t_root (c_whole_root : Ct) : TDS :=
  (dSeq (dIf (dCmpT (cInt fun i j => decide (i < j)) (dOp gIx (dVar 0) (dC (.int 0))) (dC (.int 0))) (dRet (dC .none)) dSkip)
    (dSeq (dSet 1 (dCall 1 c_whole_root (dCons (dOp gIx (dVar 0) (dC (.int 0))) dNil)))
    (dSeq (dSet 2 (dCall 1 c_whole_root (dCons (dOp gIx (dVar 0) (dC (.int 1))) dNil)))
    (dSeq (dIf (dAnd (dCmpT cEq (dOp gMul (dVar 1) (dVar 1)) (dOp gIx (dVar 0) (dC (.int 0)))) (dCmpT cEq (dOp gMul (dVar 2) (dVar 2)) (dOp gIx (dVar 0) (dC (.int 1))))) (dRet (dTup (dCons (dVar 1) (dCons (dVar 2) dNil)))) dSkip)
    (dRet (dC .none))))))
def t_share (c_plus : Ct) (c_times : Ct) (c_minus : Ct) : TDS :=
  (dSeq (dSet 3 (dCall 2 c_plus (dCons (dOp gIx (dVar 0) (dC (.int 0))) (dCons (dCall 2 c_times (dCons (dVar 2) (dCons (dCall 2 c_minus (dCons (dOp gIx (dVar 1) (dC (.int 0))) (dCons (dOp gIx (dVar 0) (dC (.int 0))) dNil))) dNil))) dNil))))
    (dSeq (dSet 4 (dCall 2 c_plus (dCons (dOp gIx (dVar 0) (dC (.int 1))) (dCons (dCall 2 c_times (dCons (dVar 2) (dCons (dCall 2 c_minus (dCons (dOp gIx (dVar 1) (dC (.int 1))) (dCons (dOp gIx (dVar 0) (dC (.int 1))) dNil))) dNil))) dNil))))
    (dRet (dTup (dCons (dVar 3) (dCons (dVar 4) dNil))))))
def t_middle (c_share : Ct) : TDS :=
  (dRet (dCall 3 c_share (dCons (dVar 0) (dCons (dVar 1) (dCons (dTup (dCons (dC (.int 1)) (dCons (dC (.int 2)) dNil))) dNil)))))
def t_beyond (c_share : Ct) : TDS :=
  (dRet (dCall 3 c_share (dCons (dVar 0) (dCons (dVar 1) (dCons (dTup (dCons (dC (.int 2)) (dCons (dC (.int 1)) dNil))) dNil)))))
def t_turned (c_plus : Ct) (c_minus : Ct) : TDS :=
  (dSeq (dSet 2 (dCall 2 c_minus (dCons (dOp gIx (dVar 0) (dC (.int 0))) (dCons (dOp gIx (dVar 1) (dC (.int 0))) dNil))))
    (dSeq (dSet 3 (dCall 2 c_minus (dCons (dOp gIx (dVar 0) (dC (.int 1))) (dCons (dOp gIx (dVar 1) (dC (.int 1))) dNil))))
    (dRet (dTup (dCons (dCall 2 c_minus (dCons (dOp gIx (dVar 1) (dC (.int 0))) (dCons (dVar 3) dNil))) (dCons (dCall 2 c_plus (dCons (dOp gIx (dVar 1) (dC (.int 1))) (dCons (dVar 2) dNil))) dNil))))))
def t_one_form (c_divisor : Ct) : TDS :=
  (dSeq (dSet 3 (dCall 2 c_divisor (dCons (dCall 2 c_divisor (dCons (dVar 0) (dCons (dVar 1) dNil))) (dCons (dVar 2) dNil))))
    (dSeq (dIf (dOr (dCmpT (cInt fun i j => decide (i < j)) (dVar 0) (dC (.int 0))) (dAnd (dCmpT cEq (dVar 0) (dC (.int 0))) (dCmpT (cInt fun i j => decide (i < j)) (dVar 1) (dC (.int 0))))) (dSet 3 (dUn gNeg (dVar 3))) dSkip)
    (dRet (dTup (dCons (dOp gFdiv (dVar 0) (dVar 3)) (dCons (dOp gFdiv (dVar 1) (dVar 3)) (dCons (dOp gFdiv (dVar 2) (dVar 3)) dNil)))))))
def t_over_one : TDS :=
  (dRet (dTup (dCons (dOp gMul (dOp gIx (dOp gIx (dVar 0) (dC (.int 0))) (dC (.int 0))) (dOp gIx (dOp gIx (dVar 0) (dC (.int 1))) (dC (.int 1)))) (dCons (dOp gMul (dOp gIx (dOp gIx (dVar 0) (dC (.int 1))) (dC (.int 0))) (dOp gIx (dOp gIx (dVar 0) (dC (.int 0))) (dC (.int 1)))) (dCons (dOp gMul (dOp gIx (dOp gIx (dVar 0) (dC (.int 0))) (dC (.int 1))) (dOp gIx (dOp gIx (dVar 0) (dC (.int 1))) (dC (.int 1)))) dNil)))))
def t_through (c_one_form : Ct) (c_over_one : Ct) : TDS :=
  (dSeq (dIf (dCmpT cEq (dVar 0) (dVar 1)) (dRet (dC .none)) dSkip)
    (dSeq (dUnp [2, 3, 4] (dCall 1 c_over_one (dCons (dVar 0) dNil)))
    (dSeq (dUnp [5, 6, 7] (dCall 1 c_over_one (dCons (dVar 1) dNil)))
    (dRet (dCall 3 c_one_form (dCons (dOp gSub (dOp gMul (dVar 3) (dVar 7)) (dOp gMul (dVar 6) (dVar 4))) (dCons (dOp gSub (dOp gMul (dVar 4) (dVar 5)) (dOp gMul (dVar 7) (dVar 2))) (dCons (dOp gSub (dOp gMul (dVar 3) (dVar 5)) (dOp gMul (dVar 2) (dVar 6))) dNil))))))))
def t_along (c_one_form : Ct) (c_over_one : Ct) : TDS :=
  (dSeq (dUnp [2, 3, 4] (dCall 1 c_over_one (dCons (dVar 0) dNil)))
    (dRet (dCall 3 c_one_form (dCons (dOp gMul (dOp gIx (dVar 1) (dC (.int 0))) (dVar 4)) (dCons (dOp gMul (dOp gIx (dVar 1) (dC (.int 1))) (dVar 4)) (dCons (dOp gAdd (dOp gMul (dOp gIx (dVar 1) (dC (.int 0))) (dVar 2)) (dOp gMul (dOp gIx (dVar 1) (dC (.int 1))) (dVar 3))) dNil))))))
def t_upright (c_one_form : Ct) (c_over_one : Ct) : TDS :=
  (dSeq (dUnp [2, 3, 4] (dCall 1 c_over_one (dCons (dVar 0) dNil)))
    (dRet (dCall 3 c_one_form (dCons (dOp gMul (dOp gIx (dVar 1) (dC (.int 1))) (dVar 4)) (dCons (dOp gMul (dUn gNeg (dOp gIx (dVar 1) (dC (.int 0)))) (dVar 4)) (dCons (dOp gSub (dOp gMul (dOp gIx (dVar 1) (dC (.int 1))) (dVar 2)) (dOp gMul (dOp gIx (dVar 1) (dC (.int 0))) (dVar 3))) dNil))))))
def t_meet (c_fraction : Ct) : TDS :=
  (dSeq (dUnp [3, 4, 5] (dVar 0))
    (dSeq (dUnp [6, 7, 8] (dVar 1))
    (dSeq (dSet 2 (dOp gSub (dOp gMul (dVar 3) (dVar 7)) (dOp gMul (dVar 4) (dVar 6))))
    (dSeq (dIf (dCmpT cEq (dVar 2) (dC (.int 0))) (dRet (dC .none)) dSkip)
    (dRet (dTup (dCons (dCall 2 c_fraction (dCons (dOp gSub (dOp gMul (dVar 5) (dVar 7)) (dOp gMul (dVar 4) (dVar 8))) (dCons (dVar 2) dNil))) (dCons (dCall 2 c_fraction (dCons (dOp gSub (dOp gMul (dVar 3) (dVar 8)) (dOp gMul (dVar 5) (dVar 6))) (dCons (dVar 2) dNil))) dNil))))))))
def t_foot (c_meet : Ct) (c_upright : Ct) : TDS :=
  (dRet (dCall 2 c_meet (dCons (dVar 1) (dCons (dCall 2 c_upright (dCons (dVar 0) (dCons (dVar 1) dNil))) dNil))))
def t_mirror (c_beyond : Ct) (c_foot : Ct) : TDS :=
  (dRet (dCall 2 c_beyond (dCons (dVar 0) (dCons (dCall 2 c_foot (dCons (dVar 0) (dCons (dVar 1) dNil))) dNil))))
def t_square_between (c_plus : Ct) (c_times : Ct) (c_minus : Ct) : TDS :=
  (dSeq (dSet 2 (dCall 2 c_minus (dCons (dOp gIx (dVar 0) (dC (.int 0))) (dCons (dOp gIx (dVar 1) (dC (.int 0))) dNil))))
    (dSeq (dSet 3 (dCall 2 c_minus (dCons (dOp gIx (dVar 0) (dC (.int 1))) (dCons (dOp gIx (dVar 1) (dC (.int 1))) dNil))))
    (dRet (dCall 2 c_plus (dCons (dCall 2 c_times (dCons (dVar 2) (dCons (dVar 2) dNil))) (dCons (dCall 2 c_times (dCons (dVar 3) (dCons (dVar 3) dNil))) dNil))))))
def t_about (c_square_between : Ct) : TDS :=
  (dSeq (dIf (dCmpT cEq (dVar 0) (dVar 1)) (dRet (dC .none)) dSkip)
    (dRet (dTup (dCons (dOp gIx (dVar 0) (dC (.int 0))) (dCons (dOp gIx (dVar 0) (dC (.int 1))) (dCons (dCall 2 c_square_between (dCons (dVar 0) (dCons (dVar 1) dNil))) dNil))))))
def t_ahead (c_less : Ct) : TDS :=
  (dSeq (dIf (dCmpT cEq (dOp gIx (dVar 0) (dC (.int 0))) (dOp gIx (dVar 1) (dC (.int 0)))) (dRet (dCall 2 c_less (dCons (dOp gIx (dVar 0) (dC (.int 1))) (dCons (dOp gIx (dVar 1) (dC (.int 1))) dNil)))) dSkip)
    (dRet (dCall 2 c_less (dCons (dOp gIx (dVar 0) (dC (.int 0))) (dCons (dOp gIx (dVar 1) (dC (.int 0))) dNil)))))
def t_line_cuts (c_ahead : Ct) (c_plus : Ct) (c_minus : Ct) (c_over : Ct) (c_times : Ct) (c_root : Ct) (c_less : Ct) : TDS :=
  (dSeq (dSet 2 (dTup (dCons (dOp gIx (dVar 0) (dC (.int 0))) (dCons (dC (.int 1)) dNil))))
    (dSeq (dSet 3 (dTup (dCons (dOp gIx (dVar 0) (dC (.int 1))) (dCons (dC (.int 1)) dNil))))
    (dSeq (dSet 4 (dCall 2 c_minus (dCons (dTup (dCons (dOp gIx (dVar 0) (dC (.int 2))) (dCons (dC (.int 1)) dNil))) (dCons (dCall 2 c_plus (dCons (dCall 2 c_times (dCons (dVar 2) (dCons (dOp gIx (dVar 1) (dC (.int 0))) dNil))) (dCons (dCall 2 c_times (dCons (dVar 3) (dCons (dOp gIx (dVar 1) (dC (.int 1))) dNil))) dNil))) dNil))))
    (dSeq (dSet 5 (dTup (dCons (dOp gAdd (dOp gMul (dOp gIx (dVar 0) (dC (.int 0))) (dOp gIx (dVar 0) (dC (.int 0)))) (dOp gMul (dOp gIx (dVar 0) (dC (.int 1))) (dOp gIx (dVar 0) (dC (.int 1))))) (dCons (dC (.int 1)) dNil))))
    (dSeq (dSet 6 (dCall 2 c_minus (dCons (dCall 2 c_times (dCons (dOp gIx (dVar 1) (dC (.int 2))) (dCons (dVar 5) dNil))) (dCons (dCall 2 c_times (dCons (dVar 4) (dCons (dVar 4) dNil))) dNil))))
    (dSeq (dIf (dVal (dCall 2 c_less (dCons (dVar 6) (dCons (dTup (dCons (dC (.int 0)) (dCons (dC (.int 1)) dNil))) dNil)))) (dRet (dTup (dCons (dC (.str "miss")) (dCons (dLst dNil) dNil)))) dSkip)
    (dSeq (dSet 7 (dCall 1 c_root (dCons (dVar 6) dNil)))
    (dSeq (dIf (dCmpT cIsN (dVar 7) (dC .none)) (dRet (dTup (dCons (dC (.str "root")) (dCons (dLst dNil) dNil)))) dSkip)
    (dSeq (dSet 8 (dCall 2 c_plus (dCons (dOp gIx (dVar 1) (dC (.int 0))) (dCons (dCall 2 c_over (dCons (dCall 2 c_times (dCons (dVar 2) (dCons (dVar 4) dNil))) (dCons (dVar 5) dNil))) dNil))))
    (dSeq (dSet 9 (dCall 2 c_plus (dCons (dOp gIx (dVar 1) (dC (.int 1))) (dCons (dCall 2 c_over (dCons (dCall 2 c_times (dCons (dVar 3) (dCons (dVar 4) dNil))) (dCons (dVar 5) dNil))) dNil))))
    (dSeq (dSet 10 (dCall 2 c_over (dCons (dCall 2 c_times (dCons (dVar 7) (dCons (dVar 3) dNil))) (dCons (dVar 5) dNil))))
    (dSeq (dSet 11 (dCall 2 c_over (dCons (dCall 2 c_times (dCons (dVar 7) (dCons (dVar 2) dNil))) (dCons (dVar 5) dNil))))
    (dSeq (dSet 12 (dTup (dCons (dCall 2 c_plus (dCons (dVar 8) (dCons (dVar 10) dNil))) (dCons (dCall 2 c_minus (dCons (dVar 9) (dCons (dVar 11) dNil))) dNil))))
    (dSeq (dSet 13 (dTup (dCons (dCall 2 c_minus (dCons (dVar 8) (dCons (dVar 10) dNil))) (dCons (dCall 2 c_plus (dCons (dVar 9) (dCons (dVar 11) dNil))) dNil))))
    (dSeq (dIf (dVal (dCall 2 c_ahead (dCons (dVar 13) (dCons (dVar 12) dNil)))) (dRet (dTup (dCons (dC (.str "at")) (dCons (dLst (dCons (dVar 13) (dCons (dVar 12) dNil))) dNil)))) dSkip)
    (dRet (dTup (dCons (dC (.str "at")) (dCons (dLst (dCons (dVar 12) (dCons (dVar 13) dNil))) dNil)))))))))))))))))))
def t_between_line (c_one_form : Ct) (c_minus : Ct) (c_plus : Ct) (c_times : Ct) : TDS :=
  (dSeq (dSet 2 (dCall 2 c_times (dCons (dTup (dCons (dC (.int 2)) (dCons (dC (.int 1)) dNil))) (dCons (dCall 2 c_minus (dCons (dOp gIx (dVar 1) (dC (.int 0))) (dCons (dOp gIx (dVar 0) (dC (.int 0))) dNil))) dNil))))
    (dSeq (dSet 3 (dCall 2 c_times (dCons (dTup (dCons (dC (.int 2)) (dCons (dC (.int 1)) dNil))) (dCons (dCall 2 c_minus (dCons (dOp gIx (dVar 1) (dC (.int 1))) (dCons (dOp gIx (dVar 0) (dC (.int 1))) dNil))) dNil))))
    (dSeq (dSet 4 (dCall 2 c_minus (dCons (dOp gIx (dVar 0) (dC (.int 2))) (dCons (dCall 2 c_plus (dCons (dCall 2 c_times (dCons (dOp gIx (dVar 0) (dC (.int 0))) (dCons (dOp gIx (dVar 0) (dC (.int 0))) dNil))) (dCons (dCall 2 c_times (dCons (dOp gIx (dVar 0) (dC (.int 1))) (dCons (dOp gIx (dVar 0) (dC (.int 1))) dNil))) dNil))) dNil))))
    (dSeq (dSet 5 (dCall 2 c_minus (dCons (dOp gIx (dVar 1) (dC (.int 2))) (dCons (dCall 2 c_plus (dCons (dCall 2 c_times (dCons (dOp gIx (dVar 1) (dC (.int 0))) (dCons (dOp gIx (dVar 1) (dC (.int 0))) dNil))) (dCons (dCall 2 c_times (dCons (dOp gIx (dVar 1) (dC (.int 1))) (dCons (dOp gIx (dVar 1) (dC (.int 1))) dNil))) dNil))) dNil))))
    (dSeq (dSet 6 (dCall 2 c_minus (dCons (dVar 4) (dCons (dVar 5) dNil))))
    (dSeq (dSet 7 (dOp gMul (dOp gMul (dOp gIx (dVar 2) (dC (.int 0))) (dOp gIx (dVar 3) (dC (.int 1)))) (dOp gIx (dVar 6) (dC (.int 1)))))
    (dSeq (dSet 8 (dOp gMul (dOp gMul (dOp gIx (dVar 3) (dC (.int 0))) (dOp gIx (dVar 2) (dC (.int 1)))) (dOp gIx (dVar 6) (dC (.int 1)))))
    (dRet (dCall 3 c_one_form (dCons (dVar 7) (dCons (dVar 8) (dCons (dOp gMul (dOp gMul (dOp gIx (dVar 6) (dC (.int 0))) (dOp gIx (dVar 2) (dC (.int 1)))) (dOp gIx (dVar 3) (dC (.int 1)))) dNil))))))))))))
def t_ring_cuts (c_line_cuts : Ct) (c_between_line : Ct) : TDS :=
  (dSeq (dIf (dAnd (dCmpT cEq (dOp gIx (dVar 0) (dC (.int 0))) (dOp gIx (dVar 1) (dC (.int 0)))) (dCmpT cEq (dOp gIx (dVar 0) (dC (.int 1))) (dOp gIx (dVar 1) (dC (.int 1))))) (dRet (dTup (dCons (dC (.str "centre")) (dCons (dLst dNil) dNil)))) dSkip)
    (dRet (dCall 2 c_line_cuts (dCons (dCall 2 c_between_line (dCons (dVar 0) (dCons (dVar 1) dNil))) (dCons (dVar 0) dNil)))))
def t_cross (c_minus : Ct) (c_times : Ct) : TDS :=
  (dSeq (dSet 3 (dCall 2 c_times (dCons (dCall 2 c_minus (dCons (dOp gIx (dVar 0) (dC (.int 0))) (dCons (dOp gIx (dVar 2) (dC (.int 0))) dNil))) (dCons (dCall 2 c_minus (dCons (dOp gIx (dVar 1) (dC (.int 1))) (dCons (dOp gIx (dVar 2) (dC (.int 1))) dNil))) dNil))))
    (dSeq (dSet 4 (dCall 2 c_times (dCons (dCall 2 c_minus (dCons (dOp gIx (dVar 0) (dC (.int 1))) (dCons (dOp gIx (dVar 2) (dC (.int 1))) dNil))) (dCons (dCall 2 c_minus (dCons (dOp gIx (dVar 1) (dC (.int 0))) (dCons (dOp gIx (dVar 2) (dC (.int 0))) dNil))) dNil))))
    (dRet (dCall 2 c_minus (dCons (dVar 3) (dCons (dVar 4) dNil))))))
def t_in_line (c_cross : Ct) : TDS :=
  (dRet (dCmpV cEq (dCall 3 c_cross (dCons (dVar 0) (dCons (dVar 1) (dCons (dVar 2) dNil)))) (dTup (dCons (dC (.int 0)) (dCons (dC (.int 1)) dNil)))))
def t_side_by_side : TDS :=
  (dRet (dCmpV cEq (dOp gMul (dOp gIx (dVar 0) (dC (.int 0))) (dOp gIx (dVar 1) (dC (.int 1)))) (dOp gMul (dOp gIx (dVar 0) (dC (.int 1))) (dOp gIx (dVar 1) (dC (.int 0))))))
def t_square_on : TDS :=
  (dRet (dCmpV cEq (dOp gAdd (dOp gMul (dOp gIx (dVar 0) (dC (.int 0))) (dOp gIx (dVar 1) (dC (.int 0)))) (dOp gMul (dOp gIx (dVar 0) (dC (.int 1))) (dOp gIx (dVar 1) (dC (.int 1))))) (dC (.int 0))))
def t_all_round (c_plus : Ct) (c_times : Ct) (c_cross : Ct) (c_square_between : Ct) : TDS :=
  (dSeq (dSet 4 (dCall 2 c_times (dCons (dCall 2 c_square_between (dCons (dVar 0) (dCons (dVar 3) dNil))) (dCons (dCall 3 c_cross (dCons (dVar 1) (dCons (dVar 2) (dCons (dVar 3) dNil)))) dNil))))
    (dSeq (dSet 5 (dCall 2 c_times (dCons (dCall 2 c_square_between (dCons (dVar 1) (dCons (dVar 3) dNil))) (dCons (dCall 3 c_cross (dCons (dVar 2) (dCons (dVar 0) (dCons (dVar 3) dNil)))) dNil))))
    (dSeq (dSet 6 (dCall 2 c_times (dCons (dCall 2 c_square_between (dCons (dVar 2) (dCons (dVar 3) dNil))) (dCons (dCall 3 c_cross (dCons (dVar 0) (dCons (dVar 1) (dCons (dVar 3) dNil)))) dNil))))
    (dRet (dCmpV cEq (dCall 2 c_plus (dCons (dVar 4) (dCons (dCall 2 c_plus (dCons (dVar 5) (dCons (dVar 6) dNil))) dNil))) (dTup (dCons (dC (.int 0)) (dCons (dC (.int 1)) dNil))))))))
def t_as_far (c_square_between : Ct) : TDS :=
  (dRet (dCmpV cEq (dCall 2 c_square_between (dCons (dVar 0) (dCons (dVar 1) dNil))) (dCall 2 c_square_between (dCons (dVar 2) (dCons (dVar 3) dNil)))))
def t_sort_of : TDS :=
  (dRet (dUn (gTab f_SORTS) (dOp gIx (dVar 0) (dC (.int 0)))))
def t_grounds : TDS :=
  (dRet (dUn gList (dSl (dVar 0) (dP (dC (.int 1))) (dP (dOp gAdd (dC (.int 1)) (dUn gLen (dUn (gTab f_ASKED) (dOp gIx (dVar 0) (dC (.int 0))))))))))
def t_asked_sorts : TDS :=
  (dRet (dUn gList (dUn (gTab f_ASKED) (dOp gIx (dVar 0) (dC (.int 0))))))
def t_suits : TDS :=
  (dRet (dOrV (dCmpV cEq (dVar 0) (dVar 1)) (dAndV (dCmpV cEq (dVar 1) (dC (.str "curve"))) (dCmpV cIn (dVar 0) (dTup (dCons (dC (.str "line")) (dCons (dC (.str "circle")) dNil)))))))
def t_within : TDS :=
  (dRet (dAndV (dCmpV (cInt fun i j => decide (i < j)) (dUn gAbs (dOp gIx (dVar 0) (dC (.int 0)))) (dVar 1)) (dCmpV (cInt fun i j => decide (i < j)) (dOp gIx (dVar 0) (dC (.int 1))) (dVar 1))))
def t_too_far (c_within : Ct) : TDS :=
  (dSeq (dIf (dCmpT cEq (dOp gIx (dVar 0) (dC (.int 0))) (dC (.str "free"))) (dRet (dNotV (dAndV (dCall 2 c_within (dCons (dOp gIx (dVar 0) (dC (.int 1))) (dCons (dC (.int 1000000000)) dNil))) (dCall 2 c_within (dCons (dOp gIx (dVar 0) (dC (.int 2))) (dCons (dC (.int 1000000000)) dNil)))))) dSkip)
    (dSeq (dIf (dCmpT cEq (dOp gIx (dVar 0) (dC (.int 0))) (dC (.str "share"))) (dRet (dNotV (dCall 2 c_within (dCons (dOp gIx (dVar 0) (dC (.int 3))) (dCons (dC (.int 1000)) dNil))))) dSkip)
    (dRet (dC (.bool false)))))
def t_good : TDS :=
  (dSeq (dIf (dOr (dCmpT (cInt fun i j => decide (i < j)) (dUn gLen (dVar 0)) (dC (.int 1))) (dCmpT (cInt fun i j => decide (j < i)) (dUn gLen (dVar 0)) (dC (.int 12)))) (dRet (dC (.bool false))) dSkip)
    (dSeq (dIf (dCmpT cNotSign (dOp gIxS (dVar 0) (dC (.int 0))) (dC (.str "abcdefghijklmnopqrstuvwxyz"))) (dRet (dC (.bool false))) dSkip)
    (dSeq (dForS 1 (dVar 0) (dIf (dAnd (dCmpT cNotSign (dVar 1) (dC (.str "abcdefghijklmnopqrstuvwxyz"))) (dCmpT cNotSign (dVar 1) (dC (.str "0123456789")))) (dRet (dC (.bool false))) dSkip))
    (dRet (dC (.bool true))))))
def t_weigh (c_grounds : Ct) : TDS :=
  (dSeq (dSet 3 (dOp gIx (dVar 0) (dC (.int 0))))
    (dSeq (dIf (dCmpT cEq (dVar 3) (dC (.str "free"))) (dRet (dC (.int 1))) dSkip)
    (dSeq (dSet 4 (dLcL 5 (dCall 1 c_grounds (dCons (dVar 0) dNil)) dYes (dOp gDGet (dVar 2) (dVar 5))))
    (dSeq (dIf (dOr (dCmpT cEq (dVar 3) (dC (.str "foot"))) (dCmpT cEq (dVar 3) (dC (.str "mirror")))) (dRet (dOp gAdd (dOp gIx (dVar 4) (dC (.int 0))) (dOp gMul (dC (.int 2)) (dOp gIx (dVar 4) (dC (.int 1)))))) dSkip)
    (dSeq (dIf (dCmpT cEq (dVar 3) (dC (.str "cut"))) (dSeq (dIf (dCmpT cEq (dOp gDGet (dVar 1) (dOp gIx (dVar 0) (dC (.int 1)))) (dC (.str "circle"))) (dRet (dOp gMul (dC (.int 5)) (dOp gAdd (dOp gIx (dVar 4) (dC (.int 0))) (dOp gIx (dVar 4) (dC (.int 1)))))) dSkip)
    (dRet (dOp gAdd (dOp gMul (dC (.int 2)) (dOp gIx (dVar 4) (dC (.int 0)))) (dOp gIx (dVar 4) (dC (.int 1)))))) dSkip)
    (dSeq (dIf (dOr (dCmpT cEq (dVar 3) (dC (.str "round"))) (dCmpT cEq (dVar 3) (dC (.str "alike")))) (dRet (dOp gMul (dC (.int 2)) (dUn gSum (dVar 4)))) dSkip)
    (dRet (dUn gSum (dVar 4)))))))))
def t_grounds_stand (c_suits : Ct) (c_asked_sorts : Ct) (c_grounds : Ct) : TDS :=
  (dSeq (dForL 2 (dCall 1 c_grounds (dCons (dVar 1) dNil)) (dIf (dCmpT gDNotIn (dVar 2) (dVar 0)) dNever dSkip))
    (dForZ 2 3 (dCons (dCall 1 c_grounds (dCons (dVar 1) dNil)) (dCons (dCall 1 c_asked_sorts (dCons (dVar 1) dNil)) dNil)) (dIf (dNot (dVal (dCall 2 c_suits (dCons (dOp gDGet (dVar 0) (dVar 2)) (dCons (dVar 3) dNil))))) dNever dSkip)))
def t_admitted (c_weigh : Ct) (c_too_far : Ct) (c_grounds_stand : Ct) (c_good : Ct) : TDS :=
  (dSeq (dIf (dNot (dVal (dCall 1 c_good (dCons (dVar 2) dNil)))) dNever dSkip)
    (dSeq (dIf (dCmpT gDIn (dVar 2) (dVar 0)) dNever dSkip)
    (dSeq (dDrop (dCall 2 c_grounds_stand (dCons (dVar 0) (dCons (dVar 3) dNil))))
    (dSeq (dIf (dVal (dCall 1 c_too_far (dCons (dVar 3) dNil))) dNever dSkip)
    (dSeq (dSet 4 (dCall 3 c_weigh (dCons (dVar 3) (dCons (dVar 0) (dCons (dVar 1) dNil)))))
    (dSeq (dIf (dCmpT (cInt fun i j => decide (j < i)) (dVar 4) (dC (.int 40))) dNever dSkip)
    (dRet (dVar 4))))))))
def t_judged (c_square_on : Ct) (c_side_by_side : Ct) (c_as_far : Ct) (c_all_round : Ct) (c_in_line : Ct) : TDS :=
  (dSeq (dIf (dCmpT cEq (dVar 0) (dC (.str "inline"))) (dRet (dCall 3 c_in_line (dCons (dOp gIx (dVar 1) (dC (.int 0))) (dCons (dOp gIx (dVar 1) (dC (.int 1))) (dCons (dOp gIx (dVar 1) (dC (.int 2))) dNil))))) dSkip)
    (dSeq (dIf (dCmpT cEq (dVar 0) (dC (.str "round"))) (dRet (dCall 4 c_all_round (dCons (dOp gIx (dVar 1) (dC (.int 0))) (dCons (dOp gIx (dVar 1) (dC (.int 1))) (dCons (dOp gIx (dVar 1) (dC (.int 2))) (dCons (dOp gIx (dVar 1) (dC (.int 3))) dNil)))))) dSkip)
    (dSeq (dIf (dCmpT cEq (dVar 0) (dC (.str "alike"))) (dRet (dCall 4 c_as_far (dCons (dOp gIx (dVar 1) (dC (.int 0))) (dCons (dOp gIx (dVar 1) (dC (.int 1))) (dCons (dOp gIx (dVar 1) (dC (.int 2))) (dCons (dOp gIx (dVar 1) (dC (.int 3))) dNil)))))) dSkip)
    (dSeq (dIf (dCmpT cEq (dVar 0) (dC (.str "beside"))) (dRet (dCall 2 c_side_by_side (dCons (dOp gIx (dVar 1) (dC (.int 0))) (dCons (dOp gIx (dVar 1) (dC (.int 1))) dNil)))) dSkip)
    (dRet (dCall 2 c_square_on (dCons (dOp gIx (dVar 1) (dC (.int 0))) (dCons (dOp gIx (dVar 1) (dC (.int 1))) dNil))))))))
def t_shown_or : TDS :=
  (dSeq (dIf (dCmpT cIsN (dVar 1) (dC .none)) (dRet (dTup (dCons (dC (.str "fails")) (dCons (dVar 2) dNil)))) dSkip)
    (dRet (dOp gCatT (dTup (dCons (dVar 0) dNil)) (dVar 1))))
def t_cut_made (c_line_cuts : Ct) (c_ring_cuts : Ct) : TDS :=
  (dSeq (dIf (dCmpT cEq (dOp gIx (dVar 0) (dC (.int 0))) (dC (.str "line"))) (dUnp [3, 4] (dCall 2 c_line_cuts (dCons (dSl (dVar 0) (dP (dC (.int 1))) dNoP) (dCons (dSl (dVar 1) (dP (dC (.int 1))) dNoP) dNil)))) (dUnp [3, 4] (dCall 2 c_ring_cuts (dCons (dSl (dVar 0) (dP (dC (.int 1))) dNoP) (dCons (dSl (dVar 1) (dP (dC (.int 1))) dNoP) dNil)))))
    (dSeq (dIf (dCmpT cNe (dVar 3) (dC (.str "at"))) (dRet (dTup (dCons (dC (.str "fails")) (dCons (dVar 3) dNil)))) dSkip)
    (dRet (dOp gCatT (dTup (dCons (dC (.str "at")) dNil)) (dOp gIx (dVar 4) (dOp gSub (dVar 2) (dC (.int 1))))))))
def t_telling_of (c_made_of : Ct) (c_grounds : Ct) : TDS :=
  (dSeq (dSet 4 (dLcL 6 (dCall 1 c_grounds (dCons (dVar 1) dNil)) (dCmpT cEq (dOp gIx (dOp gDGet (dVar 2) (dVar 6)) (dC (.int 0))) (dC (.str "gone"))) (dOp gDGet (dVar 2) (dVar 6))))
    (dSeq (dIf (dCmpT cEq (dUn gLen (dVar 4)) (dC (.int 0))) (dSeq (dSet 7 (dCall 2 c_made_of (dCons (dVar 1) (dCons (dVar 2) dNil))))
    (dSeq (dIf (dCmpT cEq (dOp gIx (dVar 7) (dC (.int 0))) (dC (.str "fails"))) (dRet (dTup (dCons (dC (.str "gone")) (dCons (dVar 0) (dCons (dOp gIx (dVar 7) (dC (.int 1))) dNil))))) dSkip)
    (dRet (dVar 7)))) dSkip)
    (dSeq (dSet 5 (dOp gIx (dVar 4) (dC (.int 0))))
    (dSeq (dForL 6 (dVar 4) (dIf (dCmpT (cInt fun i j => decide (i < j)) (dOp gDGet (dVar 3) (dOp gIx (dVar 6) (dC (.int 1)))) (dOp gDGet (dVar 3) (dOp gIx (dVar 5) (dC (.int 1))))) (dSet 5 (dVar 6)) dSkip))
    (dRet (dVar 5))))))
def t_law_gcd : TDS :=
  (dSeq (dSet 0 (dUn gAbs (dVar 0)))
    (dSeq (dSet 1 (dUn gAbs (dVar 1)))
    (dSeq (dWhile (dCmpT (cInt fun i j => decide (j < i)) (dVar 1) (dC (.int 0))) (dPar 0 1 (dCons (dVar 1) (dCons (dOp gMod (dVar 0) (dVar 1)) dNil))))
    (dRet (dVar 0)))))
def t_law_low (c_law_gcd : Ct) : TDS :=
  (dSeq (dIf (dCmpT (cInt fun i j => decide (i < j)) (dVar 1) (dC (.int 0))) (dPar 0 1 (dCons (dUn gNeg (dVar 0)) (dCons (dUn gNeg (dVar 1)) dNil))) dSkip)
    (dSeq (dSet 2 (dCall 2 c_law_gcd (dCons (dVar 0) (dCons (dVar 1) dNil))))
    (dRet (dTup (dCons (dOp gFdiv (dVar 0) (dVar 2)) (dCons (dOp gFdiv (dVar 1) (dVar 2)) dNil))))))
def t_law_plus : TDS :=
  (dRet (dTup (dCons (dOp gAdd (dOp gMul (dOp gIx (dVar 0) (dC (.int 0))) (dOp gIx (dVar 1) (dC (.int 1)))) (dOp gMul (dOp gIx (dVar 1) (dC (.int 0))) (dOp gIx (dVar 0) (dC (.int 1))))) (dCons (dOp gMul (dOp gIx (dVar 0) (dC (.int 1))) (dOp gIx (dVar 1) (dC (.int 1)))) dNil))))
def t_law_less : TDS :=
  (dRet (dTup (dCons (dOp gSub (dOp gMul (dOp gIx (dVar 0) (dC (.int 0))) (dOp gIx (dVar 1) (dC (.int 1)))) (dOp gMul (dOp gIx (dVar 1) (dC (.int 0))) (dOp gIx (dVar 0) (dC (.int 1))))) (dCons (dOp gMul (dOp gIx (dVar 0) (dC (.int 1))) (dOp gIx (dVar 1) (dC (.int 1)))) dNil))))
def t_law_times : TDS :=
  (dRet (dTup (dCons (dOp gMul (dOp gIx (dVar 0) (dC (.int 0))) (dOp gIx (dVar 1) (dC (.int 0)))) (dCons (dOp gMul (dOp gIx (dVar 0) (dC (.int 1))) (dOp gIx (dVar 1) (dC (.int 1)))) dNil))))
def t_law_even : TDS :=
  (dRet (dCmpV cEq (dOp gMul (dOp gIx (dVar 0) (dC (.int 0))) (dOp gIx (dVar 1) (dC (.int 1)))) (dOp gMul (dOp gIx (dVar 1) (dC (.int 0))) (dOp gIx (dVar 0) (dC (.int 1))))))
def t_law_whole : TDS :=
  (dRet (dAndV (dUn (gIsi "int") (dVar 0)) (dNotV (dUn (gIsi "bool") (dVar 0)))))
def t_law_is_frac (c_law_gcd : Ct) (c_law_whole : Ct) : TDS :=
  (dSeq (dIf (dOr (dNot (dVal (dUn (gIsi "tuple") (dVar 0)))) (dCmpT cNe (dUn gLen (dVar 0)) (dC (.int 2)))) (dRet (dC (.bool false))) dSkip)
    (dSeq (dIf (dOr (dNot (dVal (dCall 1 c_law_whole (dCons (dOp gIx (dVar 0) (dC (.int 0))) dNil)))) (dOr (dNot (dVal (dCall 1 c_law_whole (dCons (dOp gIx (dVar 0) (dC (.int 1))) dNil)))) (dCmpT (cInt fun i j => decide (i < j)) (dOp gIx (dVar 0) (dC (.int 1))) (dC (.int 1))))) (dRet (dC (.bool false))) dSkip)
    (dRet (dCmpV cEq (dCall 2 c_law_gcd (dCons (dOp gIx (dVar 0) (dC (.int 0))) (dCons (dOp gIx (dVar 0) (dC (.int 1))) dNil))) (dC (.int 1))))))
def t_law_is_place (c_law_is_frac : Ct) : TDS :=
  (dRet (dAndV (dUn (gIsi "tuple") (dVar 0)) (dAndV (dCmpV cEq (dUn gLen (dVar 0)) (dC (.int 2))) (dAndV (dCall 1 c_law_is_frac (dCons (dOp gIx (dVar 0) (dC (.int 0))) dNil)) (dCall 1 c_law_is_frac (dCons (dOp gIx (dVar 0) (dC (.int 1))) dNil))))))
def t_law_is_line (c_law_gcd : Ct) (c_law_whole : Ct) : TDS :=
  (dSeq (dIf (dOr (dNot (dVal (dUn (gIsi "tuple") (dVar 0)))) (dCmpT cNe (dUn gLen (dVar 0)) (dC (.int 3)))) (dRet (dC (.bool false))) dSkip)
    (dSeq (dForT 1 (dVar 0) (dIf (dNot (dVal (dCall 1 c_law_whole (dCons (dVar 1) dNil)))) (dRet (dC (.bool false))) dSkip))
    (dSeq (dIf (dOr (dCmpT (cInt fun i j => decide (i < j)) (dOp gIx (dVar 0) (dC (.int 0))) (dC (.int 0))) (dAnd (dCmpT cEq (dOp gIx (dVar 0) (dC (.int 0))) (dC (.int 0))) (dCmpT (cInt fun i j => decide (i < j)) (dOp gIx (dVar 0) (dC (.int 1))) (dC (.int 1))))) (dRet (dC (.bool false))) dSkip)
    (dRet (dCmpV cEq (dCall 2 c_law_gcd (dCons (dCall 2 c_law_gcd (dCons (dOp gIx (dVar 0) (dC (.int 0))) (dCons (dOp gIx (dVar 0) (dC (.int 1))) dNil))) (dCons (dOp gIx (dVar 0) (dC (.int 2))) dNil))) (dC (.int 1)))))))
def t_law_grounds : TDS :=
  (dSeq (dIf (dCmpT cEq (dOp gIx (dVar 0) (dC (.int 0))) (dC (.str "free"))) (dRet (dLst dNil)) dSkip)
    (dSeq (dIf (dOr (dCmpT cEq (dOp gIx (dVar 0) (dC (.int 0))) (dC (.str "share"))) (dCmpT cEq (dOp gIx (dVar 0) (dC (.int 0))) (dC (.str "cut")))) (dRet (dLst (dCons (dOp gIx (dVar 0) (dC (.int 1))) (dCons (dOp gIx (dVar 0) (dC (.int 2))) dNil)))) dSkip)
    (dRet (dUn gList (dSl (dVar 0) (dP (dC (.int 1))) dNoP)))))
def t_law_sort : TDS :=
  (dSeq (dIf (dCmpT cIn (dOp gIx (dVar 0) (dC (.int 0))) (dLst (dCons (dC (.str "line")) (dCons (dC (.str "along")) (dCons (dC (.str "upright")) dNil))))) (dRet (dC (.str "line"))) dSkip)
    (dSeq (dIf (dCmpT cIn (dOp gIx (dVar 0) (dC (.int 0))) (dLst (dCons (dC (.str "inline")) (dCons (dC (.str "round")) (dCons (dC (.str "alike")) (dCons (dC (.str "beside")) (dCons (dC (.str "square")) dNil))))))) (dRet (dC (.str "claim"))) dSkip)
    (dSeq (dIf (dCmpT cEq (dOp gIx (dVar 0) (dC (.int 0))) (dC (.str "circle"))) (dRet (dC (.str "circle"))) dSkip)
    (dRet (dC (.str "point"))))))
def t_law_weight (c_law_grounds : Ct) : TDS :=
  (dSeq (dSet 3 (dLcL 4 (dCall 1 c_law_grounds (dCons (dVar 0) dNil)) dYes (dOp gDGet (dVar 2) (dVar 4))))
    (dSeq (dIf (dCmpT cEq (dOp gIx (dVar 0) (dC (.int 0))) (dC (.str "free"))) (dRet (dC (.int 1))) dSkip)
    (dSeq (dIf (dOr (dCmpT cEq (dOp gIx (dVar 0) (dC (.int 0))) (dC (.str "foot"))) (dCmpT cEq (dOp gIx (dVar 0) (dC (.int 0))) (dC (.str "mirror")))) (dRet (dOp gAdd (dOp gIx (dVar 3) (dC (.int 0))) (dOp gMul (dC (.int 2)) (dOp gIx (dVar 3) (dC (.int 1)))))) dSkip)
    (dSeq (dIf (dAnd (dCmpT cEq (dOp gIx (dVar 0) (dC (.int 0))) (dC (.str "cut"))) (dCmpT cEq (dOp gDGet (dVar 1) (dOp gIx (dVar 0) (dC (.int 1)))) (dC (.str "circle")))) (dRet (dOp gMul (dC (.int 5)) (dOp gAdd (dOp gIx (dVar 3) (dC (.int 0))) (dOp gIx (dVar 3) (dC (.int 1)))))) dSkip)
    (dSeq (dIf (dCmpT cEq (dOp gIx (dVar 0) (dC (.int 0))) (dC (.str "cut"))) (dRet (dOp gAdd (dOp gMul (dC (.int 2)) (dOp gIx (dVar 3) (dC (.int 0)))) (dOp gIx (dVar 3) (dC (.int 1))))) dSkip)
    (dSeq (dIf (dOr (dCmpT cEq (dOp gIx (dVar 0) (dC (.int 0))) (dC (.str "round"))) (dCmpT cEq (dOp gIx (dVar 0) (dC (.int 0))) (dC (.str "alike")))) (dRet (dOp gMul (dC (.int 2)) (dUn gSum (dVar 3)))) dSkip)
    (dRet (dUn gSum (dVar 3)))))))))
def t_law_near (c_law_plus : Ct) (c_law_times : Ct) (c_law_less : Ct) : TDS :=
  (dSeq (dSet 2 (dCall 2 c_law_less (dCons (dOp gIx (dVar 0) (dC (.int 0))) (dCons (dOp gIx (dVar 1) (dC (.int 0))) dNil))))
    (dSeq (dSet 3 (dCall 2 c_law_less (dCons (dOp gIx (dVar 0) (dC (.int 1))) (dCons (dOp gIx (dVar 1) (dC (.int 1))) dNil))))
    (dRet (dCall 2 c_law_plus (dCons (dCall 2 c_law_times (dCons (dVar 2) (dCons (dVar 2) dNil))) (dCons (dCall 2 c_law_times (dCons (dVar 3) (dCons (dVar 3) dNil))) dNil))))))
def t_law_off (c_law_less : Ct) (c_law_plus : Ct) (c_law_times : Ct) : TDS :=
  (dSeq (dSet 2 (dCall 2 c_law_times (dCons (dTup (dCons (dOp gIx (dVar 1) (dC (.int 0))) (dCons (dC (.int 1)) dNil))) (dCons (dOp gIx (dVar 0) (dC (.int 0))) dNil))))
    (dSeq (dSet 3 (dCall 2 c_law_times (dCons (dTup (dCons (dOp gIx (dVar 1) (dC (.int 1))) (dCons (dC (.int 1)) dNil))) (dCons (dOp gIx (dVar 0) (dC (.int 1))) dNil))))
    (dRet (dCall 2 c_law_less (dCons (dCall 2 c_law_plus (dCons (dVar 2) (dCons (dVar 3) dNil))) (dCons (dTup (dCons (dOp gIx (dVar 1) (dC (.int 2))) (dCons (dC (.int 1)) dNil))) dNil))))))
def t_law_so (c_law_even : Ct) (c_law_near : Ct) (c_law_det : Ct) (c_law_plus : Ct) (c_law_times : Ct) (c_law_grounds : Ct) : TDS :=
  (dSeq (dSet 2 (dLcL 4 (dCall 1 c_law_grounds (dCons (dVar 0) dNil)) dYes (dSl (dOp gDGet (dVar 1) (dVar 4)) (dP (dC (.int 1))) dNoP)))
    (dSeq (dIf (dCmpT cEq (dOp gIx (dVar 0) (dC (.int 0))) (dC (.str "inline"))) (dRet (dCmpV cEq (dOp gIx (dCall 1 c_law_det (dCons (dLcL 5 (dVar 2) dYes (dLst (dCons (dOp gIx (dVar 5) (dC (.int 0))) (dCons (dOp gIx (dVar 5) (dC (.int 1))) (dCons (dTup (dCons (dC (.int 1)) (dCons (dC (.int 1)) dNil))) dNil))))) dNil)) (dC (.int 0))) (dC (.int 0)))) dSkip)
    (dSeq (dIf (dCmpT cEq (dOp gIx (dVar 0) (dC (.int 0))) (dC (.str "round"))) (dSeq (dSet 3 (dLcL 5 (dVar 2) dYes (dCall 2 c_law_plus (dCons (dCall 2 c_law_times (dCons (dOp gIx (dVar 5) (dC (.int 0))) (dCons (dOp gIx (dVar 5) (dC (.int 0))) dNil))) (dCons (dCall 2 c_law_times (dCons (dOp gIx (dVar 5) (dC (.int 1))) (dCons (dOp gIx (dVar 5) (dC (.int 1))) dNil))) dNil)))))
    (dRet (dCmpV cEq (dOp gIx (dCall 1 c_law_det (dCons (dLcN 6 (dC (.int 4)) dYes (dLst (dCons (dOp gIx (dVar 3) (dVar 6)) (dCons (dOp gIx (dOp gIx (dVar 2) (dVar 6)) (dC (.int 0))) (dCons (dOp gIx (dOp gIx (dVar 2) (dVar 6)) (dC (.int 1))) (dCons (dTup (dCons (dC (.int 1)) (dCons (dC (.int 1)) dNil))) dNil)))))) dNil)) (dC (.int 0))) (dC (.int 0))))) dSkip)
    (dSeq (dIf (dCmpT cEq (dOp gIx (dVar 0) (dC (.int 0))) (dC (.str "alike"))) (dRet (dCall 2 c_law_even (dCons (dCall 2 c_law_near (dCons (dOp gIx (dVar 2) (dC (.int 0))) (dCons (dOp gIx (dVar 2) (dC (.int 1))) dNil))) (dCons (dCall 2 c_law_near (dCons (dOp gIx (dVar 2) (dC (.int 2))) (dCons (dOp gIx (dVar 2) (dC (.int 3))) dNil))) dNil)))) dSkip)
    (dSeq (dIf (dCmpT cEq (dOp gIx (dVar 0) (dC (.int 0))) (dC (.str "beside"))) (dRet (dCmpV cEq (dOp gMul (dOp gIx (dOp gIx (dVar 2) (dC (.int 0))) (dC (.int 0))) (dOp gIx (dOp gIx (dVar 2) (dC (.int 1))) (dC (.int 1)))) (dOp gMul (dOp gIx (dOp gIx (dVar 2) (dC (.int 0))) (dC (.int 1))) (dOp gIx (dOp gIx (dVar 2) (dC (.int 1))) (dC (.int 0)))))) dSkip)
    (dRet (dCmpV cEq (dOp gAdd (dOp gMul (dOp gIx (dOp gIx (dVar 2) (dC (.int 0))) (dC (.int 0))) (dOp gIx (dOp gIx (dVar 2) (dC (.int 1))) (dC (.int 0)))) (dOp gMul (dOp gIx (dOp gIx (dVar 2) (dC (.int 0))) (dC (.int 1))) (dOp gIx (dOp gIx (dVar 2) (dC (.int 1))) (dC (.int 1))))) (dC (.int 0)))))))))
def t_law_root : TDS :=
  (dSeq (dSet 1 (dC (.int 0)))
    (dSeq (dSet 2 (dOp gAdd (dVar 0) (dC (.int 1))))
    (dSeq (dWhile (dCmpT (cInt fun i j => decide (j < i)) (dOp gSub (dVar 2) (dVar 1)) (dC (.int 1))) (dSeq (dSet 3 (dOp gFdiv (dOp gAdd (dVar 1) (dVar 2)) (dC (.int 2))))
    (dIf (dCmpT (cInt fun i j => decide (i ≤ j)) (dOp gMul (dVar 3) (dVar 3)) (dVar 0)) (dSet 1 (dVar 3)) (dSet 2 (dVar 3)))))
    (dRet (dVar 1)))))
def t_law_chord (c_law_low : Ct) (c_law_plus : Ct) (c_law_less : Ct) (c_law_times : Ct) : TDS :=
  (dSeq (dIf (dCmpT cEq (dOp gIx (dVar 0) (dC (.int 0))) (dC (.str "line"))) (dRet (dLcT 7 (dSl (dVar 0) (dP (dC (.int 1))) dNoP) dYes (dTup (dCons (dVar 7) (dCons (dC (.int 1)) dNil))))) dSkip)
    (dSeq (dSet 2 (dCall 2 c_law_less (dCons (dOp gIx (dVar 1) (dC (.int 1))) (dCons (dOp gIx (dVar 0) (dC (.int 1))) dNil))))
    (dSeq (dSet 3 (dCall 2 c_law_less (dCons (dOp gIx (dVar 1) (dC (.int 2))) (dCons (dOp gIx (dVar 0) (dC (.int 2))) dNil))))
    (dSeq (dSet 4 (dCall 2 c_law_plus (dCons (dCall 2 c_law_times (dCons (dOp gIx (dVar 1) (dC (.int 1))) (dCons (dOp gIx (dVar 1) (dC (.int 1))) dNil))) (dCons (dCall 2 c_law_times (dCons (dOp gIx (dVar 1) (dC (.int 2))) (dCons (dOp gIx (dVar 1) (dC (.int 2))) dNil))) dNil))))
    (dSeq (dSet 5 (dCall 2 c_law_plus (dCons (dCall 2 c_law_times (dCons (dOp gIx (dVar 0) (dC (.int 1))) (dCons (dOp gIx (dVar 0) (dC (.int 1))) dNil))) (dCons (dCall 2 c_law_times (dCons (dOp gIx (dVar 0) (dC (.int 2))) (dCons (dOp gIx (dVar 0) (dC (.int 2))) dNil))) dNil))))
    (dSeq (dSet 6 (dCall 2 c_law_plus (dCons (dCall 2 c_law_less (dCons (dOp gIx (dVar 0) (dC (.int 3))) (dCons (dOp gIx (dVar 1) (dC (.int 3))) dNil))) (dCons (dCall 2 c_law_less (dCons (dVar 4) (dCons (dVar 5) dNil))) dNil))))
    (dRet (dLst (dCons (dCall 2 c_law_low (dCons (dOp gMul (dC (.int 2)) (dOp gIx (dVar 2) (dC (.int 0)))) (dCons (dOp gIx (dVar 2) (dC (.int 1))) dNil))) (dCons (dCall 2 c_law_low (dCons (dOp gMul (dC (.int 2)) (dOp gIx (dVar 3) (dC (.int 0)))) (dCons (dOp gIx (dVar 3) (dC (.int 1))) dNil))) (dCons (dCall 2 c_law_low (dCons (dOp gIx (dVar 6) (dC (.int 0))) (dCons (dOp gIx (dVar 6) (dC (.int 1))) dNil))) dNil)))))))))))
def t_law_parts (c_law_low : Ct) (c_law_plus : Ct) (c_law_times : Ct) (c_law_less : Ct) (c_law_chord : Ct) : TDS :=
  (dSeq (dUnpL [4, 5, 6] (dCall 2 c_law_chord (dCons (dVar 0) (dCons (dVar 1) dNil))))
    (dSeq (dSet 2 (dCall 2 c_law_less (dCons (dVar 6) (dCons (dCall 2 c_law_plus (dCons (dCall 2 c_law_times (dCons (dVar 4) (dCons (dOp gIx (dVar 1) (dC (.int 1))) dNil))) (dCons (dCall 2 c_law_times (dCons (dVar 5) (dCons (dOp gIx (dVar 1) (dC (.int 2))) dNil))) dNil))) dNil))))
    (dSeq (dSet 3 (dCall 2 c_law_plus (dCons (dCall 2 c_law_times (dCons (dVar 4) (dCons (dVar 4) dNil))) (dCons (dCall 2 c_law_times (dCons (dVar 5) (dCons (dVar 5) dNil))) dNil))))
    (dRet (dTup (dCons (dVar 4) (dCons (dVar 5) (dCons (dCall 2 c_law_low (dCons (dOp gIx (dVar 2) (dC (.int 0))) (dCons (dOp gIx (dVar 2) (dC (.int 1))) dNil))) (dCons (dCall 2 c_law_low (dCons (dOp gIx (dVar 3) (dC (.int 0))) (dCons (dOp gIx (dVar 3) (dC (.int 1))) dNil))) dNil)))))))))
def t_law_fail (c_law_root : Ct) (c_law_low : Ct) (c_law_less : Ct) (c_law_times : Ct) (c_law_parts : Ct) (c_law_grounds : Ct) : TDS :=
  (dSeq (dSet 2 (dLcL 8 (dCall 1 c_law_grounds (dCons (dVar 0) dNil)) dYes (dOp gDGet (dVar 1) (dVar 8))))
    (dSeq (dIf (dOr (dCmpT cEq (dOp gIx (dVar 0) (dC (.int 0))) (dC (.str "line"))) (dCmpT cEq (dOp gIx (dVar 0) (dC (.int 0))) (dC (.str "circle")))) (dRet (dOp gIx (dLst (dCons (dC (.str "")) (dCons (dC (.str "same")) dNil))) (dUn gInt (dCmpV cEq (dOp gIx (dVar 2) (dC (.int 0))) (dOp gIx (dVar 2) (dC (.int 1))))))) dSkip)
    (dSeq (dIf (dCmpT cEq (dOp gIx (dVar 0) (dC (.int 0))) (dC (.str "meet"))) (dRet (dOp gIx (dLst (dCons (dC (.str "")) (dCons (dC (.str "parallel")) dNil))) (dUn gInt (dCmpV cEq (dOp gMul (dOp gIx (dOp gIx (dVar 2) (dC (.int 0))) (dC (.int 1))) (dOp gIx (dOp gIx (dVar 2) (dC (.int 1))) (dC (.int 2)))) (dOp gMul (dOp gIx (dOp gIx (dVar 2) (dC (.int 0))) (dC (.int 2))) (dOp gIx (dOp gIx (dVar 2) (dC (.int 1))) (dC (.int 1)))))))) dSkip)
    (dSeq (dIf (dCmpT cNe (dOp gIx (dVar 0) (dC (.int 0))) (dC (.str "cut"))) (dRet (dC (.str ""))) dSkip)
    (dSeq (dIf (dAnd (dCmpT cEq (dOp gIx (dOp gIx (dVar 2) (dC (.int 0))) (dC (.int 0))) (dC (.str "circle"))) (dCmpT cEq (dSl (dOp gIx (dVar 2) (dC (.int 0))) (dP (dC (.int 1))) (dP (dC (.int 3)))) (dSl (dOp gIx (dVar 2) (dC (.int 1))) (dP (dC (.int 1))) (dP (dC (.int 3)))))) (dRet (dC (.str "centre"))) dSkip)
    (dSeq (dUnp [4, 5, 6, 7] (dCall 2 c_law_parts (dCons (dOp gIx (dVar 2) (dC (.int 0))) (dCons (dOp gIx (dVar 2) (dC (.int 1))) dNil))))
    (dSeq (dSet 3 (dCall 2 c_law_less (dCons (dCall 2 c_law_times (dCons (dOp gIx (dOp gIx (dVar 2) (dC (.int 1))) (dC (.int 3))) (dCons (dVar 7) dNil))) (dCons (dCall 2 c_law_times (dCons (dVar 6) (dCons (dVar 6) dNil))) dNil))))
    (dSeq (dSet 3 (dCall 2 c_law_low (dCons (dOp gIx (dVar 3) (dC (.int 0))) (dCons (dOp gIx (dVar 3) (dC (.int 1))) dNil))))
    (dSeq (dIf (dCmpT (cInt fun i j => decide (i < j)) (dOp gIx (dVar 3) (dC (.int 0))) (dC (.int 0))) (dRet (dC (.str "miss"))) dSkip)
    (dSeq (dIf (dAnd (dCmpT cEq (dOp gPow (dCall 1 c_law_root (dCons (dOp gIx (dVar 3) (dC (.int 0))) dNil)) (dC (.int 2))) (dOp gIx (dVar 3) (dC (.int 0)))) (dCmpT cEq (dOp gPow (dCall 1 c_law_root (dCons (dOp gIx (dVar 3) (dC (.int 1))) dNil)) (dC (.int 2))) (dOp gIx (dVar 3) (dC (.int 1))))) (dRet (dC (.str ""))) dSkip)
    (dRet (dC (.str "root")))))))))))))
def t_law_first (c_law_less : Ct) (c_law_plus : Ct) (c_law_times : Ct) (c_law_parts : Ct) : TDS :=
  (dSeq (dUnp [6, 7, 8, 9] (dCall 2 c_law_parts (dCons (dVar 1) (dCons (dVar 2) dNil))))
    (dSeq (dSet 3 (dTup (dCons (dOp gMul (dOp gIx (dVar 8) (dC (.int 0))) (dOp gIx (dVar 9) (dC (.int 1)))) (dCons (dOp gMul (dOp gIx (dVar 8) (dC (.int 1))) (dOp gIx (dVar 9) (dC (.int 0)))) dNil))))
    (dSeq (dSet 4 (dCall 2 c_law_less (dCons (dOp gIx (dVar 0) (dC (.int 0))) (dCons (dCall 2 c_law_plus (dCons (dOp gIx (dVar 2) (dC (.int 1))) (dCons (dCall 2 c_law_times (dCons (dVar 6) (dCons (dVar 3) dNil))) dNil))) dNil))))
    (dSeq (dSet 5 (dCall 2 c_law_less (dCons (dOp gIx (dVar 0) (dC (.int 1))) (dCons (dCall 2 c_law_plus (dCons (dOp gIx (dVar 2) (dC (.int 2))) (dCons (dCall 2 c_law_times (dCons (dVar 7) (dCons (dVar 3) dNil))) dNil))) dNil))))
    (dSeq (dIf (dCmpT cNe (dOp gIx (dVar 4) (dC (.int 0))) (dC (.int 0))) (dRet (dOp gIx (dLst (dCons (dC (.int 1)) (dCons (dC (.int 2)) dNil))) (dUn gInt (dCmpV (cInt fun i j => decide (j < i)) (dOp gIx (dVar 4) (dC (.int 0))) (dC (.int 0)))))) dSkip)
    (dSeq (dIf (dCmpT cNe (dOp gIx (dVar 5) (dC (.int 0))) (dC (.int 0))) (dRet (dOp gIx (dLst (dCons (dC (.int 1)) (dCons (dC (.int 2)) dNil))) (dUn gInt (dCmpV (cInt fun i j => decide (j < i)) (dOp gIx (dVar 5) (dC (.int 0))) (dC (.int 0)))))) dSkip)
    (dRet (dC (.int 0)))))))))
def t_law_on_way (c_law_even : Ct) (c_law_less : Ct) (c_law_times : Ct) : TDS :=
  (dSeq (dForN 4 (dC (.int 2)) (dSeq (dSet 5 (dCall 2 c_law_times (dCons (dVar 3) (dCons (dCall 2 c_law_less (dCons (dOp gIx (dVar 2) (dVar 4)) (dCons (dOp gIx (dVar 1) (dVar 4)) dNil))) dNil))))
    (dIf (dNot (dVal (dCall 2 c_law_even (dCons (dCall 2 c_law_less (dCons (dOp gIx (dVar 0) (dVar 4)) (dCons (dOp gIx (dVar 1) (dVar 4)) dNil))) (dCons (dVar 5) dNil))))) (dRet (dC (.bool false))) dSkip)))
    (dRet (dC (.bool true))))
def t_law_point (c_law_off : Ct) (c_law_plus : Ct) (c_law_even : Ct) (c_law_times : Ct) (c_law_less : Ct) (c_law_on_way : Ct) : TDS :=
  (dSeq (dUnpL [6, 7] (dVar 2))
    (dSeq (dSet 3 (dOp gIx (dVar 0) (dC (.int 0))))
    (dSeq (dIf (dCmpT cEq (dVar 3) (dC (.str "middle"))) (dRet (dCall 4 c_law_on_way (dCons (dVar 1) (dCons (dVar 6) (dCons (dVar 7) (dCons (dTup (dCons (dC (.int 1)) (dCons (dC (.int 2)) dNil))) dNil)))))) dSkip)
    (dSeq (dIf (dCmpT cEq (dVar 3) (dC (.str "next"))) (dRet (dCall 4 c_law_on_way (dCons (dVar 1) (dCons (dVar 6) (dCons (dVar 7) (dCons (dTup (dCons (dC (.int 2)) (dCons (dC (.int 1)) dNil))) dNil)))))) dSkip)
    (dSeq (dIf (dCmpT cEq (dVar 3) (dC (.str "share"))) (dRet (dCall 4 c_law_on_way (dCons (dVar 1) (dCons (dVar 6) (dCons (dVar 7) (dCons (dOp gIx (dVar 0) (dC (.int 3))) dNil)))))) dSkip)
    (dSeq (dIf (dCmpT cEq (dVar 3) (dC (.str "turn"))) (dSeq (dIf (dNot (dVal (dCall 2 c_law_even (dCons (dCall 2 c_law_plus (dCons (dOp gIx (dVar 1) (dC (.int 0))) (dCons (dOp gIx (dVar 6) (dC (.int 1))) dNil))) (dCons (dCall 2 c_law_plus (dCons (dOp gIx (dVar 7) (dC (.int 0))) (dCons (dOp gIx (dVar 7) (dC (.int 1))) dNil))) dNil))))) (dRet (dC (.bool false))) dSkip)
    (dRet (dCall 2 c_law_even (dCons (dCall 2 c_law_plus (dCons (dOp gIx (dVar 1) (dC (.int 1))) (dCons (dOp gIx (dVar 7) (dC (.int 0))) dNil))) (dCons (dCall 2 c_law_plus (dCons (dOp gIx (dVar 7) (dC (.int 1))) (dCons (dOp gIx (dVar 6) (dC (.int 0))) dNil))) dNil))))) dSkip)
    (dSeq (dIf (dCmpT cEq (dVar 3) (dC (.str "meet"))) (dRet (dAndV (dCmpV cEq (dOp gIx (dCall 2 c_law_off (dCons (dVar 1) (dCons (dVar 6) dNil))) (dC (.int 0))) (dC (.int 0))) (dCmpV cEq (dOp gIx (dCall 2 c_law_off (dCons (dVar 1) (dCons (dVar 7) dNil))) (dC (.int 0))) (dC (.int 0))))) dSkip)
    (dSeq (dSet 4 (dCall 2 c_law_less (dCons (dOp gIx (dVar 6) (dC (.int 0))) (dCons (dOp gIx (dVar 1) (dC (.int 0))) dNil))))
    (dSeq (dSet 5 (dCall 2 c_law_less (dCons (dOp gIx (dVar 6) (dC (.int 1))) (dCons (dOp gIx (dVar 1) (dC (.int 1))) dNil))))
    (dSeq (dIf (dNot (dVal (dCall 2 c_law_even (dCons (dCall 2 c_law_times (dCons (dVar 4) (dCons (dTup (dCons (dOp gIx (dVar 7) (dC (.int 1))) (dCons (dC (.int 1)) dNil))) dNil))) (dCons (dCall 2 c_law_times (dCons (dVar 5) (dCons (dTup (dCons (dOp gIx (dVar 7) (dC (.int 0))) (dCons (dC (.int 1)) dNil))) dNil))) dNil))))) (dRet (dC (.bool false))) dSkip)
    (dSeq (dIf (dCmpT cEq (dVar 3) (dC (.str "foot"))) (dRet (dCmpV cEq (dOp gIx (dCall 2 c_law_off (dCons (dVar 1) (dCons (dVar 7) dNil))) (dC (.int 0))) (dC (.int 0)))) dSkip)
    (dSeq (dSet 4 (dCall 2 c_law_plus (dCons (dOp gIx (dVar 6) (dC (.int 0))) (dCons (dOp gIx (dVar 1) (dC (.int 0))) dNil))))
    (dSeq (dSet 5 (dCall 2 c_law_plus (dCons (dOp gIx (dVar 6) (dC (.int 1))) (dCons (dOp gIx (dVar 1) (dC (.int 1))) dNil))))
    (dRet (dCmpV cEq (dOp gIx (dCall 2 c_law_off (dCons (dTup (dCons (dVar 4) (dCons (dVar 5) dNil))) (dCons (dTup (dCons (dOp gIx (dVar 7) (dC (.int 0))) (dCons (dOp gIx (dVar 7) (dC (.int 1))) (dCons (dOp gMul (dC (.int 2)) (dOp gIx (dVar 7) (dC (.int 2)))) dNil)))) dNil))) (dC (.int 0))) (dC (.int 0)))))))))))))))))
def t_law_line_fits (c_law_off : Ct) (c_law_is_line : Ct) : TDS :=
  (dSeq (dIf (dOr (dNot (dVal (dCall 1 c_law_is_line (dCons (dVar 1) dNil)))) (dCmpT cNe (dOp gIx (dCall 2 c_law_off (dCons (dOp gIx (dVar 2) (dC (.int 0))) (dCons (dVar 1) dNil))) (dC (.int 0))) (dC (.int 0)))) (dRet (dC (.bool false))) dSkip)
    (dSeq (dIf (dCmpT cEq (dOp gIx (dVar 0) (dC (.int 0))) (dC (.str "line"))) (dRet (dCmpV cEq (dOp gIx (dCall 2 c_law_off (dCons (dOp gIx (dVar 2) (dC (.int 1))) (dCons (dVar 1) dNil))) (dC (.int 0))) (dC (.int 0)))) dSkip)
    (dSeq (dIf (dCmpT cEq (dOp gIx (dVar 0) (dC (.int 0))) (dC (.str "along"))) (dRet (dCmpV cEq (dOp gMul (dOp gIx (dVar 1) (dC (.int 0))) (dOp gIx (dOp gIx (dVar 2) (dC (.int 1))) (dC (.int 1)))) (dOp gMul (dOp gIx (dVar 1) (dC (.int 1))) (dOp gIx (dOp gIx (dVar 2) (dC (.int 1))) (dC (.int 0)))))) dSkip)
    (dRet (dCmpV cEq (dOp gAdd (dOp gMul (dOp gIx (dVar 1) (dC (.int 0))) (dOp gIx (dOp gIx (dVar 2) (dC (.int 1))) (dC (.int 0)))) (dOp gMul (dOp gIx (dVar 1) (dC (.int 1))) (dOp gIx (dOp gIx (dVar 2) (dC (.int 1))) (dC (.int 1))))) (dC (.int 0)))))))
def t_law_fits (c_law_first : Ct) (c_law_even : Ct) (c_law_near : Ct) (c_law_off : Ct) (c_law_point : Ct) (c_law_is_frac : Ct) (c_law_is_place : Ct) (c_law_line_fits : Ct) (c_law_grounds : Ct) (c_law_so : Ct) (c_law_sort : Ct) : TDS :=
  (dSeq (dIf (dOr (dNot (dVal (dUn (gIsi "tuple") (dVar 1)))) (dCmpT cEq (dUn gLen (dVar 1)) (dC (.int 0)))) (dRet (dC (.bool false))) dSkip)
    (dSeq (dSet 3 (dCall 1 c_law_sort (dCons (dVar 0) dNil)))
    (dSeq (dIf (dCmpT cEq (dVar 3) (dC (.str "claim"))) (dRet (dCmpV cEq (dVar 1) (dTup (dCons (dOp gIx (dLst (dCons (dC (.str "broken")) (dCons (dC (.str "kept")) dNil))) (dUn gInt (dCall 2 c_law_so (dCons (dVar 0) (dCons (dVar 2) dNil))))) dNil)))) dSkip)
    (dSeq (dSet 4 (dLcL 7 (dCall 1 c_law_grounds (dCons (dVar 0) dNil)) dYes (dSl (dOp gDGet (dVar 2) (dVar 7)) (dP (dC (.int 1))) dNoP)))
    (dSeq (dIf (dCmpT cEq (dVar 3) (dC (.str "line"))) (dRet (dAndV (dCmpV cEq (dOp gIx (dVar 1) (dC (.int 0))) (dC (.str "line"))) (dCall 3 c_law_line_fits (dCons (dVar 0) (dCons (dSl (dVar 1) (dP (dC (.int 1))) dNoP) (dCons (dVar 4) dNil)))))) dSkip)
    (dSeq (dIf (dNot (dVal (dCall 1 c_law_is_place (dCons (dSl (dVar 1) (dP (dC (.int 1))) (dP (dC (.int 3)))) dNil)))) (dRet (dC (.bool false))) dSkip)
    (dSeq (dIf (dCmpT cEq (dVar 3) (dC (.str "circle"))) (dSeq (dIf (dOr (dCmpT cNe (dOp gIx (dVar 1) (dC (.int 0))) (dC (.str "circle"))) (dOr (dCmpT cNe (dUn gLen (dVar 1)) (dC (.int 4))) (dCmpT cNe (dSl (dVar 1) (dP (dC (.int 1))) (dP (dC (.int 3)))) (dOp gIx (dVar 4) (dC (.int 0)))))) (dRet (dC (.bool false))) dSkip)
    (dRet (dAndV (dCall 1 c_law_is_frac (dCons (dOp gIx (dVar 1) (dC (.int 3))) dNil)) (dCall 2 c_law_even (dCons (dOp gIx (dVar 1) (dC (.int 3))) (dCons (dCall 2 c_law_near (dCons (dOp gIx (dVar 4) (dC (.int 0))) (dCons (dOp gIx (dVar 4) (dC (.int 1))) dNil))) dNil)))))) dSkip)
    (dSeq (dIf (dOr (dCmpT cNe (dOp gIx (dVar 1) (dC (.int 0))) (dC (.str "at"))) (dCmpT cNe (dUn gLen (dVar 1)) (dC (.int 3)))) (dRet (dC (.bool false))) dSkip)
    (dSeq (dIf (dCmpT cEq (dOp gIx (dVar 0) (dC (.int 0))) (dC (.str "free"))) (dRet (dCmpV cEq (dSl (dVar 1) (dP (dC (.int 1))) dNoP) (dSl (dVar 0) (dP (dC (.int 1))) dNoP))) dSkip)
    (dSeq (dIf (dCmpT cNe (dOp gIx (dVar 0) (dC (.int 0))) (dC (.str "cut"))) (dRet (dCall 3 c_law_point (dCons (dVar 0) (dCons (dSl (dVar 1) (dP (dC (.int 1))) dNoP) (dCons (dVar 4) dNil))))) dSkip)
    (dSeq (dSet 5 (dOp gDGet (dVar 2) (dOp gIx (dVar 0) (dC (.int 1)))))
    (dSeq (dSet 6 (dOp gDGet (dVar 2) (dOp gIx (dVar 0) (dC (.int 2)))))
    (dSeq (dIf (dAnd (dCmpT cEq (dOp gIx (dVar 5) (dC (.int 0))) (dC (.str "line"))) (dCmpT cNe (dOp gIx (dCall 2 c_law_off (dCons (dSl (dVar 1) (dP (dC (.int 1))) dNoP) (dCons (dSl (dVar 5) (dP (dC (.int 1))) dNoP) dNil))) (dC (.int 0))) (dC (.int 0)))) (dRet (dC (.bool false))) dSkip)
    (dSeq (dIf (dAnd (dCmpT cEq (dOp gIx (dVar 5) (dC (.int 0))) (dC (.str "circle"))) (dNot (dVal (dCall 2 c_law_even (dCons (dCall 2 c_law_near (dCons (dSl (dVar 1) (dP (dC (.int 1))) dNoP) (dCons (dSl (dVar 5) (dP (dC (.int 1))) (dP (dC (.int 3)))) dNil))) (dCons (dOp gIx (dVar 5) (dC (.int 3))) dNil)))))) (dRet (dC (.bool false))) dSkip)
    (dSeq (dIf (dNot (dVal (dCall 2 c_law_even (dCons (dCall 2 c_law_near (dCons (dSl (dVar 1) (dP (dC (.int 1))) dNoP) (dCons (dSl (dVar 6) (dP (dC (.int 1))) (dP (dC (.int 3)))) dNil))) (dCons (dOp gIx (dVar 6) (dC (.int 3))) dNil))))) (dRet (dC (.bool false))) dSkip)
    (dRet (dCmpV cIn (dCall 3 c_law_first (dCons (dSl (dVar 1) (dP (dC (.int 1))) dNoP) (dCons (dVar 5) (dCons (dVar 6) dNil)))) (dTup (dCons (dC (.int 0)) (dCons (dOp gIx (dVar 0) (dC (.int 3))) dNil))))))))))))))))))))
end Mb
set_option Elab.async false
set_option linter.all false
set_option maxRecDepth 100000
set_option maxHeartbeats 4000000
namespace Mb
open PySem PySem.Spec PyProof.Rows L2
/-! ### a dict of functions, a local that holds one of them -/
structure HeldD (P : Program) (w : World) (K : PySem.W.Frag) (mg : Str → Option Value) (base : Heap) (k : Nat) (f : Addr) (n : Nat) (C : Ct) : Prop where
  ex : ∃ (fd : FuncData) (ps : List Str), FnOk P w K mg base CX0 k f fd ps (spD K n C) ∧ PySem.W.keepIn K (.ref f) = true ∧ Binds K fd ps []
  mo : MoC C
structure FTab (P : Program) (w : World) (K : PySem.W.Frag) (mg : Str → Option Value) (base : Heap) (k : Nat) (x : Str) (n : Nat) (F : Str → Option Ct) : Prop where
  ex : ∃ a es nn, mg x = some (.ref a) ∧ KDict K w a es nn ∧ ∀ key, (F key = none ∧ PySem.W.nsIn K a key = some none) ∨ ∃ C f, F key = some C ∧ PySem.W.nsIn K a key = some (some (.ref f)) ∧ HeldD P w K mg base k f n C
def strK (d : PyData) (k : Str → Prop) : Prop := match d with
  | .str b => k b
  | _ => False
theorem strK_inv {d : PyData} {k : Str → Prop} (h : strK d k) : ∃ z, d = .str z ∧ k z := by
  cases d <;> first | exact h.elim | exact ⟨_, rfl, h⟩
theorem strK_mo {d : PyData} {k k' : Str → Prop} (h : ∀ b, k b → k' b) (q : strK d k) : strK d k' := by
  cases d <;> first | exact q.elim | exact h _ q
/-- k in T, T such a dict -/
def dInF (F : Str → Option Ct) (te : TD) : TDT := fun δ Q => te δ fun d => strK d fun z => Q (F z).isSome
section
variable {X : Cx} {e a b : Expr} {es : List Expr} {te ta tb : TD} {p pos : Pos} {x : Str} {k n i : Nat} {F : Str → Option Ct} {C : Ct} {t : TDA}
theorem ptd_inF (T : FTab X.prog X.w X.K X.mg X.base k x n F) (hg : Gl X x) (h : PD X e te) (hdb : (x == ("__debug__" : Str)) = false := by decide) (h1 : behindInMarks .In (.Name x p) = false := by rfl) : PDT X (.Compare e [.In] [.Name x p] pos) (dInF F te) := by
  obtain ⟨a, es, nn, hm, hk, hF⟩ := T.ex
  refine ⟨PT.imp (pt_cmpR (op_in_kd hk) h.run (pe_glob (v := .ref a) hg hm rfl hdb) h1) fun σ H Q ⟨δ, ok, q⟩ => ?_, fun δ P P' m q => h.mo δ _ _ (fun d hd => strK_mo (fun z hz => m _ hz) hd) q⟩
  refine ⟨δ, ok, h.mo δ _ _ (fun d hd v H1 s1 r1 => ?_) q⟩
  obtain ⟨z, rfl, hz⟩ := strK_inv hd
  have e := r1.str_inv
  subst e
  rcases hF z with ⟨h1, h2⟩ | ⟨C, f, h1, h2, _⟩
  · rw [h1] at hz
    exact ⟨z, none, rfl, rfl, h2, _, rfl, hz H1 s1⟩
  · rw [h1] at hz
    exact ⟨z, some (.ref f), rfl, rfl, h2, _, rfl, hz H1 s1⟩
/-- under the fact that the i-th slot holds a def that keeps C -/
def lF (X : Cx) (k i n : Nat) (C : Ct) (t : TD) : TE := fun σ H Q => (∃ f, σ[i]? = some (some (.ref f)) ∧ HeldD X.prog X.w X.K X.mg X.base k f n C) ∧ lE X.K t σ H Q
def lFA (X : Cx) (k i n : Nat) (C : Ct) (t : TDA) : TA := fun σ H Q => (∃ f, σ[i]? = some (some (.ref f)) ∧ HeldD X.prog X.w X.K X.mg X.base k f n C) ∧ lA X.K t σ H Q
structure PF (X : Cx) (k i n : Nat) (C : Ct) (e : Expr) (t : TD) : Prop where
  run : PE X e (lF X k i n C t)
  mo : MoE t
structure PFA (X : Cx) (k i n : Nat) (C : Ct) (es : List Expr) (t : TDA) : Prop where
  run : PA X es (lFA X k i n C t)
  mo : MoA t
  len : ∀ δ (P : List PyData → Prop), t δ P → t δ fun ds => P ds ∧ ds.length = es.length
theorem pf_pd (h : PD X e te) : PF X k i n C e te := ⟨PE.imp h.run fun σ H Q h => h.2, h.mo⟩
theorem pfa_pda (h : PDA X es t) : PFA X k i n C es t := ⟨PA.imp h.run fun σ H Q h => h.2, h.mo, h.len⟩
theorem pfa_cons (ha : PF X k i n C e te) (hr : PFA X k i n C es t) (hs : starEach (e :: es) X.env = (false, eval e X.env) :: starEach es X.env := by rfl) : PFA X k i n C (e :: es) (dCons te t) := by
  refine ⟨PA.imp (pa_cons ha.run hr.run hs) fun σ H Q ⟨hf, δ, ok, q⟩ => ?_, fun δ P P' m h => ?_, fun δ P h => ha.mo δ _ _ (fun d hd => hr.mo δ _ _ (fun ds hp => ⟨hp.1, by rw [List.length_cons, List.length_cons, hp.2]⟩) (hr.len δ _ hd)) h⟩
  · refine ⟨hf, δ, ok, ha.mo δ _ _ (fun d hd v H1 s1 r1 => ?_) q⟩
    refine ⟨hf, δ, ok.mono s1, hr.mo δ _ _ (fun ds hp vs H2 s2 r2 => ?_) hd⟩
    exact hp (v :: vs) H2 (s1.trans s2) (.cons (r1.mono s2) r2)
  · exact ha.mo δ _ _ (fun d hd => hr.mo δ _ _ (fun ds hp => m _ hp) hd) h
theorem pf_op {op : Operator} {r : R2} {g : PyData → PyData → (PyData → Prop) → Prop} (ho : OpR X (binaryOp op) r) (lk : Lk2 X.K r g) (mg : MoG g) (ha : PF X k i n C a ta) (hb : PF X k i n C b tb) : PF X k i n C (.BinOp a op b pos) (dOp g ta tb) := by
  refine ⟨PE.imp (pe_op ho ha.run hb.run) fun σ H Q ⟨hf, δ, ok, q⟩ => ?_, dOp_mo mg ha.mo hb.mo⟩
  refine ⟨hf, δ, ok, ha.mo δ _ _ (fun d hd x H1 s1 r1 => ?_) q⟩
  refine ⟨hf, δ, ok.mono s1, hb.mo δ _ _ (fun e he y H2 s2 r2 => ?_) hd⟩
  exact lk H2 x y d e Q (r1.mono s2) r2 (mg _ _ _ _ (fun z hz => hz.mono (s1.trans s2)) he)
theorem pf_call {m j : Nat} {G : Ct} (h : Has X.prog X.w X.K X.mg X.base j x m G) (hr : Room j X.A) (hg : Gl X x) (ha : PFA X k i n C (e :: es) t) (hn : (e :: es).length = m := by rfl) (hdb : (x == ("__debug__" : Str)) = false := by decide)
    (he : starEach (e :: es) X.env = (false, eval e X.env) :: starEach es X.env := by rfl) (hpl : (backTo pos (starEach es X.env)).any (·.1) = false := by rfl) : PF X k i n C (.Call (.Name x p) (e :: es) [] pos) (dCall m G t) := by
  obtain ⟨f, fd, ps, h1, h2, h3, h4⟩ := h.ex
  refine ⟨PE.imp (pe_call h4 hr hg h1 h2 h3 .nil pass0 ha.run hdb he hpl) fun σ H Q ⟨hf, δ, ok, q⟩ => ?_, fun δ P P' m q => ha.mo δ _ _ (fun ds hd => h.mo ds _ _ m hd) q⟩
  refine ⟨hf, δ, ok, ha.mo δ _ _ (fun ds hd vs H1 s1 r1 => ?_) (ha.len δ _ q)⟩
  show spD X.K m G (vs ++ []) H1 Q E0
  rw [List.append_nil]
  exact ⟨ds, r1, hd.2.trans hn, h.mo ds _ _ (fun z hz => wV.mono s1 hz) hd.1⟩
/-- the call of the local -/
theorem pf_loc (mC : MoC C) (hr : Room k X.A) (hN : X.N[i]? = some x) (hv : Vis X.env.scope x) (ha : PDA X (e :: es) t) (hn : (e :: es).length = n := by rfl) (hdb : (x == ("__debug__" : Str)) = false := by decide) (hcd : (x == ("__classdict__" : Str)) = false := by decide)
    (he : starEach (e :: es) X.env = (false, eval e X.env) :: starEach es X.env := by rfl) (hpl : (backTo pos (starEach es X.env)).any (·.1) = false := by rfl) : PF X k i n C (.Call (.Name x p) (e :: es) [] pos) (dCall n C t) := by
  refine ⟨⟨fun pins s σ H Q I h => ?_⟩, fun δ P P' m q => ha.mo δ _ _ (fun ds hd => mC ds _ _ m hd) q⟩
  obtain ⟨⟨f, hs, hh⟩, δ, ok, q⟩ := h
  obtain ⟨fd, ps, hF, hk, hb⟩ := hh.ex
  refine (pe_callL (i := i) (f := f) (sp := spD X.K n C) (dvs := []) (E := E0) hF hr hN hv hk hb .nil pass0 ha.run hdb hcd he hpl).run pins s σ H Q I ⟨hs, ?_⟩
  refine ⟨δ, ok, ha.mo δ _ _ (fun ds hd vs H1 s1 r1 => ?_) (ha.len δ _ q)⟩
  show spD X.K n C (vs ++ []) H1 Q E0
  rw [List.append_nil]
  exact ⟨ds, r1, hd.2.trans hn, mC ds _ _ (fun z hz => wV.mono s1 hz) hd.1⟩
/-- x = T[e]; return r: r calls x -/
def dDeed (i : Nat) (F : Str → Option Ct) (te : TD) (tr : Ct → TD) : TDS := fun E δ => te δ fun d => strK d fun z => match F z with
  | some C => i < δ.length ∧ tr C (δ.set i none) E.rt
  | none => False
theorem pdss_deed {r : Expr} {y : Str} {py p2 p3 p4 p5 : Pos} {tr : Ct → TD} (T : FTab X.prog X.w X.K X.mg X.base k x n F) (hg : Gl X x) (hN : X.N.Nodup) (h : PD X e te) (hr : ∀ C, MoC C → PF X k i n C r (tr C))
    (hi : X.N[i]? = some y := by rfl) (hy : Loc X.env.scope y := by first | exact Or.inl rfl | exact Or.inr rfl) (hsl : PlainIx e := by exact fun _ _ => rfl) (hdb : (x == ("__debug__" : Str)) = false := by decide)
    (hs : swapsWith (.Subscript (.Name x p2) e p3) (some (.Name y py)) p4.line X.env = pure false := by rfl) (hf : X.fn y = true ∨ X.env.scope.names.lookup y = some .local := by first | exact .inl rfl | exact .inr rfl) :
    PDSs X [.Assign [.Name y py] (.Subscript (.Name x p2) e p3) p4, .Return (some r) p5] (dDeed i F te tr) := by
  obtain ⟨a, es, nn, hm, hk, hF⟩ := T.ex
  have hret : PE X r (fun σ H Q => ∃ C, MoC C ∧ lF X k i n C (tr C) σ H Q) := ⟨fun pins s σ H Q I ⟨C, mo, h⟩ => (hr C mo).run.run pins s σ H Q I h⟩
  refine ⟨PSs.imp (pss_cons (ps_set hN hi hy (pe_ix ix_kdict (pe_glob (v := .ref a) hg hm rfl hdb) h.run hsl) hs hf) (pss_one (ps_ret hret))) fun D σ H ⟨δ, ok, q⟩ => ?_, fun E E' δ l q => h.mo δ _ _ (fun d hd => strK_mo (fun z hz => ?_) hd) q⟩
  · refine ⟨δ, ok, h.mo δ _ _ (fun d hd v H1 s1 r1 => ?_) q⟩
    obtain ⟨z, rfl, hz⟩ := strK_inv hd
    have e := r1.str_inv
    subst e
    rcases hF z with ⟨h1, h2⟩ | ⟨C, f, h1, h2, hh⟩
    · rw [h1] at hz; exact hz.elim
    · rw [h1] at hz
      refine ⟨a, z, .ref f, rfl, rfl, ⟨es, nn, .ref f, hk.at_, hk.lit, h2, rfl⟩, ?_⟩
      refine ⟨C, hh.mo, ⟨f, ?_, hh⟩, δ.set i none, ?_, ?_⟩
      · rw [List.getElem?_set_self (by rw [← ok.len]; exact hz.1)]
      · have ok1 := ok.mono s1
        refine ⟨by rw [List.length_set, List.length_set]; exact ok1.len, fun j d q => ?_⟩
        by_cases hj : i = j
        · subst hj
          by_cases hl : i < δ.length
          · rw [List.getElem?_set_self hl] at q; cases q
          · rw [List.getElem?_eq_none (by rw [List.length_set]; omega)] at q; cases q
        · rw [List.getElem?_set_ne hj] at q
          obtain ⟨w, h3, h4⟩ := ok1.at_ j d q
          exact ⟨w, by rw [List.getElem?_set_ne hj]; exact h3, h4⟩
      · exact (hr C hh.mo).mo _ _ _ (fun d hd => wV.mono s1 hd) hz.2
  · cases hFz : F z with
    | none => rw [hFz] at hz; exact hz.elim
    | some C =>
      rw [hFz] at hz
      rcases hF z with ⟨h1, _⟩ | ⟨C', f, h1, _, hh⟩
      · rw [h1] at hFz; cases hFz
      · rw [hFz] at h1
        cases h1
        exact ⟨hz.1, (hr C hh.mo).mo _ _ _ l.rt hz.2⟩
end
end Mb
set_option Elab.async false
set_option linter.all false
set_option maxRecDepth 100000
namespace Mb
open PySem PySem.Spec PyProof.Rows L2
/-! More readings: printed by gen_der.py. -/
def t_law_pool : TDS :=
  (dSeq (dSet 2 (dC (.int 0)))
    (dSeq (dIf (dCmpT (cInt fun i j => decide (j < i)) (dUn gLen (dVar 0)) (dC (.int 0))) (dSet 2 (dOp gIx (dVar 0) (dOp gMod (dVar 1) (dUn gLen (dVar 0))))) dSkip)
    (dSeq (dSet 3 (dC (.int 0)))
    (dSeq (dIf (dAnd (dCmpT (cInt fun i j => decide (j ≤ i)) (dVar 2) (dOp gPow (dC (.int 10)) (dC (.int 18)))) (dCmpT (cInt fun i j => decide (i < j)) (dVar 1) (dUn gLen (dVar 0)))) (dSet 3 (dVar 2)) dSkip)
    (dRet (dLst (dCons (dVar 3) (dCons (dOp gMul (dC (.int 1000)) (dVar 1)) (dCons (dVar 2) dNil)))))))))
def t_law_det (c_law_low : Ct) (c_law_plus : Ct) (c_law_less : Ct) (c_law_times : Ct) (c_law_det : Ct) : TDS :=
  (dSeq (dIf (dCmpT cEq (dUn gLen (dVar 0)) (dC (.int 1))) (dRet (dOp gIx (dOp gIx (dVar 0) (dC (.int 0))) (dC (.int 0)))) dSkip)
    (dSeq (dSet 1 (dTup (dCons (dC (.int 0)) (dCons (dC (.int 1)) dNil))))
    (dSeq (dForN 2 (dUn gLen (dVar 0)) (dSeq (dSet 3 (dLcL 5 (dOp gCatL (dSl (dVar 0) dNoP (dP (dVar 2))) (dSl (dVar 0) (dP (dOp gAdd (dVar 2) (dC (.int 1)))) dNoP)) dYes (dSl (dVar 5) (dP (dC (.int 1))) dNoP)))
    (dSeq (dSet 4 (dCall 2 c_law_times (dCons (dOp gIx (dOp gIx (dVar 0) (dVar 2)) (dC (.int 0))) (dCons (dCall 1 c_law_det (dCons (dVar 3) dNil)) dNil))))
    (dSeq (dIf (dCmpT cEq (dOp gMod (dVar 2) (dC (.int 2))) (dC (.int 0))) (dSet 1 (dCall 2 c_law_plus (dCons (dVar 1) (dCons (dVar 4) dNil)))) (dSet 1 (dCall 2 c_law_less (dCons (dVar 1) (dCons (dVar 4) dNil)))))
    (dSet 1 (dCall 2 c_law_low (dCons (dOp gIx (dVar 1) (dC (.int 0))) (dCons (dOp gIx (dVar 1) (dC (.int 1))) dNil))))))))
    (dRet (dVar 1)))))
def t_made_of (c_judged : Ct) (c_shown_or : Ct) (c_about : Ct) (c_cut_made : Ct) (c_meet : Ct) (c_share : Ct) (c_grounds : Ct) (F_LINES : Str → Option Ct) (F_PLACES : Str → Option Ct) : TDS :=
  (dSeq (dSet 2 (dOp gIx (dVar 0) (dC (.int 0))))
    (dSeq (dIf (dCmpT cEq (dVar 2) (dC (.str "free"))) (dRet (dTup (dCons (dC (.str "at")) (dCons (dOp gIx (dVar 0) (dC (.int 1))) (dCons (dOp gIx (dVar 0) (dC (.int 2))) dNil))))) dSkip)
    (dSeq (dSet 3 (dLcL 6 (dCall 1 c_grounds (dCons (dVar 0) dNil)) dYes (dOp gDGet (dVar 1) (dVar 6))))
    (dSeq (dSet 4 (dLcL 7 (dVar 3) dYes (dSl (dVar 7) (dP (dC (.int 1))) dNoP)))
    (dSeq (dIf (dInF F_PLACES (dVar 2)) (dDeed 5 F_PLACES (dVar 2) (fun C => (dOp gCatT (dTup (dCons (dC (.str "at")) dNil)) (dCall 2 C (dCons (dOp gIx (dVar 4) (dC (.int 0))) (dCons (dOp gIx (dVar 4) (dC (.int 1))) dNil)))))) dSkip)
    (dSeq (dIf (dCmpT cEq (dVar 2) (dC (.str "share"))) (dRet (dOp gCatT (dTup (dCons (dC (.str "at")) dNil)) (dCall 3 c_share (dCons (dOp gIx (dVar 4) (dC (.int 0))) (dCons (dOp gIx (dVar 4) (dC (.int 1))) (dCons (dOp gIx (dVar 0) (dC (.int 3))) dNil)))))) dSkip)
    (dSeq (dIf (dCmpT cEq (dVar 2) (dC (.str "meet"))) (dRet (dCall 3 c_shown_or (dCons (dC (.str "at")) (dCons (dCall 2 c_meet (dCons (dOp gIx (dVar 4) (dC (.int 0))) (dCons (dOp gIx (dVar 4) (dC (.int 1))) dNil))) (dCons (dC (.str "parallel")) dNil))))) dSkip)
    (dSeq (dIf (dCmpT cEq (dVar 2) (dC (.str "cut"))) (dRet (dCall 3 c_cut_made (dCons (dOp gIx (dVar 3) (dC (.int 0))) (dCons (dOp gIx (dVar 3) (dC (.int 1))) (dCons (dOp gIx (dVar 0) (dC (.int 3))) dNil))))) dSkip)
    (dSeq (dIf (dInF F_LINES (dVar 2)) (dDeed 5 F_LINES (dVar 2) (fun C => (dCall 3 c_shown_or (dCons (dC (.str "line")) (dCons (dCall 2 C (dCons (dOp gIx (dVar 4) (dC (.int 0))) (dCons (dOp gIx (dVar 4) (dC (.int 1))) dNil))) (dCons (dC (.str "same")) dNil)))))) dSkip)
    (dSeq (dIf (dCmpT cEq (dVar 2) (dC (.str "circle"))) (dRet (dCall 3 c_shown_or (dCons (dC (.str "circle")) (dCons (dCall 2 c_about (dCons (dOp gIx (dVar 4) (dC (.int 0))) (dCons (dOp gIx (dVar 4) (dC (.int 1))) dNil))) (dCons (dC (.str "same")) dNil))))) dSkip)
    (dSeq (dIf (dVal (dCall 2 c_judged (dCons (dVar 2) (dCons (dVar 4) dNil)))) (dRet (dTup (dCons (dC (.str "kept")) dNil))) dSkip)
    (dRet (dTup (dCons (dC (.str "broken")) dNil))))))))))))))
end Mb
set_option Elab.async false
set_option linter.all false
set_option maxRecDepth 100000
set_option maxHeartbeats 1000000
namespace Mb
open PySem PySem.Spec PyProof.Rows L2
/-! ### sizes -/
def Bz (n : Nat) (i : Int) : Prop := i.natAbs < 2 ^ n
def Bd (n : Nat) (q : Rat) : Prop := Bz n q.num ∧ Bz n (q.den : Int)
theorem Bz.mono {m n : Nat} {i : Int} (h : Bz m i) (l : m ≤ n) : Bz n i := Nat.lt_of_lt_of_le h (Nat.pow_le_pow_right (by decide) l)
theorem Bd.mono {m n : Nat} {i : Rat} (h : Bd m i) (l : m ≤ n) : Bd n i := ⟨h.1.mono l, h.2.mono l⟩
theorem Bz.mul {m n : Nat} {i j : Int} (h : Bz m i) (g : Bz n j) : Bz (m + n) (i * j) := by
  unfold Bz at *
  rw [Int.natAbs_mul, Nat.pow_add]
  exact Nat.mul_lt_mul'' h g
theorem Bz.add {m n k : Nat} {i j : Int} (h : Bz m i) (g : Bz n j) (hm : m < k) (hn : n < k) : Bz k (i + j) := by
  have h1 := Bz.mono h (show m ≤ k - 1 by omega)
  have h2 := Bz.mono g (show n ≤ k - 1 by omega)
  unfold Bz at *
  have e : 2 ^ k = 2 ^ (k - 1) + 2 ^ (k - 1) := by
    have : k = (k - 1) + 1 := by omega
    rw [this, Nat.pow_succ]; simp; omega
  have := Int.natAbs_add_le i j
  omega
theorem Bz.neg {m : Nat} {i : Int} (h : Bz m i) : Bz m (-i) := by unfold Bz at *; rw [Int.natAbs_neg]; exact h
theorem Bz.sub {m n k : Nat} {i j : Int} (h : Bz m i) (g : Bz n j) (hm : m < k) (hn : n < k) : Bz k (i - j) := by
  rw [Int.sub_eq_add_neg]; exact h.add g.neg hm hn
theorem Bz.one {n : Nat} (h : 0 < n) : Bz n 1 := by
  unfold Bz
  exact Nat.one_lt_two_pow (by omega)
theorem Bz.zero {n : Nat} : Bz n 0 := by
  unfold Bz
  exact Nat.two_pow_pos n
theorem Bz.log {n : Nat} {i : Int} (h : Bz n i) : i.natAbs.log2 ≤ n := by
  by_cases h0 : i.natAbs = 0
  · rw [h0]; simp
  · exact Nat.le_of_lt ((Nat.log2_lt h0).mpr h)
theorem Bz.mulW {m n : Nat} {i j : Int} (h : Bz m i) (g : Bz n j) (l : m + n ≤ 900000) : CMulW i j := by
  have h1 := h.log
  have h2 := g.log
  unfold CMulW
  omega
theorem Bz.divX {n : Nat} {i j : Int} (h : Bz n i) (l : n < 13500) (hj : j ≠ 0) : CDivX i j := ⟨hj, Nat.lt_of_le_of_lt h.log l⟩
/-! ### fractions as data -/
def fr (q : Rat) : PyData := .tuple [.int q.num, .int (q.den : Int)]
theorem Bd.num {n : Nat} {q : Rat} (h : Bd n q) : Bz n q.num := h.1
theorem Bd.den {n : Nat} {q : Rat} (h : Bd n q) : Bz n (q.den : Int) := h.2
theorem den_ne (q : Rat) : (q.den : Int) ≠ 0 := by have := q.den_nz; omega
theorem den_neR (q : Rat) : ((q.den : Int) : Rat) ≠ 0 := fun h => den_ne q (Rat.intCast_eq_zero_iff.mp h)
theorem nd (q : Rat) : q = (q.num : Rat) / ((q.den : Int) : Rat) := by
  have h : Rat.divInt q.num (q.den : Int) = q := by rw [Rat.divInt_ofNat, Rat.mkRat_self]
  rw [Rat.divInt_eq_div] at h
  exact h.symm
theorem div_mk {k l : Int} (hl : 0 < l) (hc : k.natAbs.Coprime l.natAbs) : ((k : Rat) / (l : Rat)).num = k ∧ ((((k : Rat) / (l : Rat)).den : Nat) : Int) = l := by
  have h0 : l.natAbs ≠ 0 := by omega
  have e : (Rat.mk' k l.natAbs h0 hc) = (k : Rat) / (l : Rat) := by
    rw [Rat.mk_eq_divInt, show ((l.natAbs : Nat) : Int) = l by omega, Rat.divInt_eq_div]
  rw [← e]
  exact ⟨rfl, by show ((l.natAbs : Nat) : Int) = l; omega⟩
/-- a fraction of whole numbers by what its top and bottom divide -/
theorem frac_val {a b s : Int} (hb : b ≠ 0) (hs : s = if b < 0 then -((Int.gcd a b : Nat) : Int) else ((Int.gcd a b : Nat) : Int)) : fr ((a : Rat) / b) = .tuple [.int (a.fdiv s), .int (b.fdiv s)] ∧ s ≠ 0 := by
  have hg : 0 < Int.gcd a b := Int.gcd_pos_of_ne_zero_right a hb
  have s0 : s ≠ 0 := by rw [hs]; split <;> omega
  have hab : s.natAbs = Int.gcd a b := by rw [hs]; split <;> simp
  have da : s ∣ a := by
    rw [← Int.natAbs_dvd, hab]; exact Int.gcd_dvd_left ..
  have db : s ∣ b := by
    rw [← Int.natAbs_dvd, hab]; exact Int.gcd_dvd_right ..
  obtain ⟨k, rfl⟩ := da
  obtain ⟨l, rfl⟩ := db
  refine ⟨?_, s0⟩
  have l0 : 0 < l := by
    have h1 : s * l < 0 ↔ s < 0 := by
      constructor
      · intro h; rw [hs, if_pos h]; omega
      · intro h
        by_cases q : s * l < 0
        · exact q
        · rw [if_neg q] at hs; omega
    have hl0 : l ≠ 0 := by intro z; subst z; simp at hb
    rcases Int.lt_or_gt_of_ne hl0 with q | q
    · exfalso
      by_cases hs0 : s < 0
      · have := h1.mpr hs0
        have := Int.mul_pos_of_neg_of_neg hs0 q
        omega
      · have := Int.mul_neg_of_pos_of_neg (show 0 < s by omega) q
        have := h1.mp this
        omega
    · exact q
  have hc : k.natAbs.Coprime l.natAbs := by
    have e : Int.gcd (s * k) (s * l) = s.natAbs * Int.gcd k l := Int.gcd_mul_left ..
    rw [← hab] at e
    have h2 : s.natAbs * 1 = s.natAbs * Int.gcd k l := by omega
    have h3 := Nat.eq_of_mul_eq_mul_left (by omega) h2
    exact h3.symm
  have e : ((s * k : Int) : Rat) / ((s * l : Int) : Rat) = (k : Rat) / (l : Rat) := by
    rw [← Rat.divInt_eq_div, ← Rat.divInt_eq_div, Rat.divInt_mul_left s0]
  obtain ⟨h1, h2⟩ := div_mk l0 hc
  unfold fr
  rw [e, h1, h2, Int.mul_fdiv_cancel_left _ s0, Int.mul_fdiv_cancel_left _ s0]
/-- the size of a fraction by any whole numbers that give it -/
theorem Bd_of {n : Nat} {q : Rat} {a b : Int} (hb : 0 < b) (e : q = (a : Rat) / b) (ha : Bz n a) (hb' : Bz n b) : Bd n q := by
  subst e
  have hg : 0 < Int.gcd a b := Int.gcd_pos_of_ne_zero_right a (by omega)
  have da : ((Int.gcd a b : Nat) : Int) ∣ a := Int.gcd_dvd_left ..
  have db : ((Int.gcd a b : Nat) : Int) ∣ b := Int.gcd_dvd_right ..
  obtain ⟨e, _⟩ := frac_val (a := a) (b := b) (s := ((Int.gcd a b : Nat) : Int)) (by omega) (by rw [if_neg (by omega)])
  unfold fr at e
  simp only [PyData.tuple.injEq, List.cons.injEq, PyData.int.injEq, and_true] at e
  obtain ⟨e1, e2⟩ := e
  have key : ∀ x : Int, ((Int.gcd a b : Nat) : Int) ∣ x → (x.fdiv ((Int.gcd a b : Nat) : Int)).natAbs ≤ x.natAbs := fun x ⟨k, hk⟩ => by
    rw [hk, Int.mul_fdiv_cancel_left _ (by omega), Int.natAbs_mul]
    exact Nat.le_mul_of_pos_left _ (by omega)
  refine ⟨?_, ?_⟩
  · rw [e1]; exact Nat.lt_of_le_of_lt (key a da) ha
  · rw [e2]; exact Nat.lt_of_le_of_lt (key b db) hb'
theorem den_pos' (q : Rat) : (0 : Int) < (q.den : Int) := by have := q.den_pos; omega
theorem castMul (a b : Int) : ((a * b : Int) : Rat) = (a : Rat) * b := Rat.intCast_mul a b
theorem castAdd (a b : Int) : ((a + b : Int) : Rat) = (a : Rat) + b := Rat.intCast_add a b
theorem castSub (a b : Int) : ((a - b : Int) : Rat) = (a : Rat) - b := Rat.intCast_sub a b
theorem add_nd (p q : Rat) : ((p.num * (q.den : Int) + q.num * (p.den : Int) : Int) : Rat) / (((p.den : Int) * (q.den : Int) : Int) : Rat) = p + q := by
  have h1 := nd p
  have h2 := nd q
  have d1 := den_neR p
  have d2 := den_neR q
  rw [castAdd, castMul, castMul, castMul]
  generalize (p.num : Rat) = a at *
  generalize (q.num : Rat) = b at *
  generalize ((p.den : Int) : Rat) = c at *
  generalize ((q.den : Int) : Rat) = d at *
  subst h1 h2
  grind
theorem sub_nd (p q : Rat) : ((p.num * (q.den : Int) - q.num * (p.den : Int) : Int) : Rat) / (((p.den : Int) * (q.den : Int) : Int) : Rat) = p - q := by
  have h1 := nd p
  have h2 := nd q
  have d1 := den_neR p
  have d2 := den_neR q
  rw [castSub, castMul, castMul, castMul]
  generalize (p.num : Rat) = a at *
  generalize (q.num : Rat) = b at *
  generalize ((p.den : Int) : Rat) = c at *
  generalize ((q.den : Int) : Rat) = d at *
  subst h1 h2
  grind
theorem mul_nd (p q : Rat) : ((p.num * q.num : Int) : Rat) / (((p.den : Int) * (q.den : Int) : Int) : Rat) = p * q := by
  have h1 := nd p
  have h2 := nd q
  have d1 := den_neR p
  have d2 := den_neR q
  rw [castMul, castMul]
  generalize (p.num : Rat) = a at *
  generalize (q.num : Rat) = b at *
  generalize ((p.den : Int) : Rat) = c at *
  generalize ((q.den : Int) : Rat) = d at *
  subst h1 h2
  grind
theorem num_ne {q : Rat} (h : q ≠ 0) : q.num ≠ 0 := fun z => h (by rw [nd q, z, Rat.div_def, Rat.intCast_zero, Rat.zero_mul])
theorem div_nd (p q : Rat) (h : q ≠ 0) : ((p.num * (q.den : Int) : Int) : Rat) / (((p.den : Int) * q.num : Int) : Rat) = p / q := by
  have h1 := nd p
  have h2 := nd q
  have d1 := den_neR p
  have d2 := den_neR q
  have n2 : (q.num : Rat) ≠ 0 := fun z => num_ne h (Rat.intCast_eq_zero_iff.mp z)
  rw [castMul, castMul]
  generalize (p.num : Rat) = a at *
  generalize (q.num : Rat) = b at *
  generalize ((p.den : Int) : Rat) = c at *
  generalize ((q.den : Int) : Rat) = d at *
  subst h1 h2
  grind
/-! sizes of sums and products -/
theorem Bd.add {m n : Nat} {p q : Rat} (h : Bd m p) (g : Bd n q) : Bd (m + n + 1) (p + q) :=
  Bd_of (Int.mul_pos (den_pos' p) (den_pos' q)) (add_nd p q).symm ((h.num.mul g.den).add (g.num.mul h.den) (by omega) (by omega)) ((h.den.mul g.den).mono (by omega))
theorem Bd.sub {m n : Nat} {p q : Rat} (h : Bd m p) (g : Bd n q) : Bd (m + n + 1) (p - q) :=
  Bd_of (Int.mul_pos (den_pos' p) (den_pos' q)) (sub_nd p q).symm ((h.num.mul g.den).sub (g.num.mul h.den) (by omega) (by omega)) ((h.den.mul g.den).mono (by omega))
theorem Bd.mul {m n : Nat} {p q : Rat} (h : Bd m p) (g : Bd n q) : Bd (m + n) (p * q) :=
  Bd_of (Int.mul_pos (den_pos' p) (den_pos' q)) (mul_nd p q).symm (h.num.mul g.num) (h.den.mul g.den)
theorem Bd.inv {m : Nat} {p : Rat} (h : Bd m p) (h0 : p ≠ 0) : Bd m p⁻¹ := by
  have n0 := num_ne h0
  rcases Int.lt_or_gt_of_ne n0 with q | q
  · refine Bd_of (a := -(p.den : Int)) (b := -p.num) (by omega) ?_ h.den.neg h.num.neg
    have h1 := nd p
    have n2 : (p.num : Rat) ≠ 0 := fun z => n0 (Rat.intCast_eq_zero_iff.mp z)
    have d1 := den_neR p
    rw [Rat.intCast_neg, Rat.intCast_neg]
    generalize (p.num : Rat) = a at *
    generalize ((p.den : Int) : Rat) = c at *
    subst h1
    grind
  · refine Bd_of (a := (p.den : Int)) (b := p.num) q ?_ h.den h.num
    have h1 := nd p
    have n2 : (p.num : Rat) ≠ 0 := fun z => n0 (Rat.intCast_eq_zero_iff.mp z)
    have d1 := den_neR p
    generalize (p.num : Rat) = a at *
    generalize ((p.den : Int) : Rat) = c at *
    subst h1
    grind
theorem Bd.div {m n : Nat} {p q : Rat} (h : Bd m p) (g : Bd n q) (h0 : q ≠ 0) : Bd (m + n) (p / q) := by
  rw [Rat.div_def]; exact h.mul (g.inv h0)
theorem Bd.int {n : Nat} {i : Int} (h : Bz n i) (hn : 0 < n) : Bd n (i : Rat) := by
  refine Bd_of (a := i) (b := 1) (by decide) ?_ h (Bz.one hn)
  rw [Rat.intCast_one]
  grind
/-! ### the fractions' defs -/
def c_divisor : Ct := fun ds Q => ∃ a b : Int, ds = [.int a, .int b] ∧ Q (.int ((Int.gcd a b : Nat) : Int))
theorem abs_if (a : Int) : (if a < 0 then -a else a) = ((a.natAbs : Nat) : Int) := by split <;> omega
theorem gcd_step {x y : Int} (hx : 0 ≤ x) (hy : 0 < y) : Int.gcd y (x % y) = Int.gcd x y := by
  show Nat.gcd y.natAbs (x % y).natAbs = Nat.gcd x.natAbs y.natAbs
  have e : (x % y).natAbs = x.natAbs % y.natAbs := by
    have := Int.emod_nonneg x (show y ≠ 0 by omega)
    have h1 : ((x.natAbs : Nat) : Int) = x := by omega
    have h2 : ((y.natAbs : Nat) : Int) = y := by omega
    have h3 : (((x.natAbs % y.natAbs : Nat)) : Int) = x % y := by rw [Int.natCast_emod, h1, h2]
    omega
  rw [e, Nat.gcd_comm x.natAbs, Nat.gcd_rec y.natAbs x.natAbs, Nat.gcd_comm]
theorem rd_divisor (ds : List PyData) (Q : PyData → Prop) (hl : ds.length = 2) (h : c_divisor ds Q) : t_divisor { nx := fun _ => Q .none, rt := Q } (startD 2 ds) := by
  obtain ⟨a, b, rfl, hQ⟩ := h
  show ∃ W : Nat → Dn → Prop, (∃ m, W m [some (.int (if a < 0 then -a else a)), some (.int (if b < 0 then -b else b))]) ∧ _
  refine ⟨fun m δ => ∃ x y : Int, 0 ≤ x ∧ 0 ≤ y ∧ m = y.toNat ∧ Int.gcd x y = Int.gcd a b ∧ δ = [some (.int x), some (.int y)], ⟨_, _, _, ?_, ?_, rfl, ?_, rfl⟩, ?_⟩
  · rw [abs_if]; omega
  · rw [abs_if]; omega
  · rw [abs_if, abs_if]; rfl
  · rintro m δ ⟨x, y, hx, hy, rfl, hg, rfl⟩
    show if decide (0 < y) = true then _ else _
    by_cases h0 : 0 < y
    · rw [if_pos (decide_eq_true h0)]
      refine ⟨by omega, (x.fmod y).toNat, ?_, y, x.fmod y, hy, ?_, rfl, ?_, rfl⟩
      · rw [Int.fmod_eq_emod_of_nonneg _ hy]
        have := Int.emod_lt_of_pos x h0
        have := Int.emod_nonneg x (show y ≠ 0 by omega)
        omega
      · rw [Int.fmod_eq_emod_of_nonneg _ hy]
        exact Int.emod_nonneg x (by omega)
      · rw [Int.fmod_eq_emod_of_nonneg _ hy, gcd_step hx h0, hg]
    · rw [if_neg (by simpa using h0)]
      have e : y = 0 := by omega
      subst e
      show Q (.int x)
      have e2 : x = ((Int.gcd a b : Nat) : Int) := by rw [← hg, Int.gcd_zero_right]; omega
      rw [e2]
      exact hQ
def c_fraction : Ct := fun ds Q => ∃ a b : Int, ds = [.int a, .int b] ∧ b ≠ 0 ∧ Bz 13400 a ∧ Bz 13400 b ∧ Q (fr ((a : Rat) / b))
theorem rd_fraction (ds : List PyData) (Q : PyData → Prop) (hl : ds.length = 2) (h : c_fraction ds Q) : t_fraction c_divisor { nx := fun _ => Q .none, rt := Q } (startD 3 ds) := by
  obtain ⟨a, b, rfl, hb, ba, bb, hQ⟩ := h
  show if decide (b = 0) = true then False else _
  rw [if_neg (by simpa using hb)]
  refine ⟨a, b, rfl, ?_⟩
  show if decide (b < 0) = true then _ else _
  by_cases h0 : b < 0
  · rw [if_pos (decide_eq_true h0)]
    obtain ⟨e, s0⟩ := frac_val (a := a) (b := b) (s := -((Int.gcd a b : Nat) : Int)) hb (by rw [if_pos h0])
    rw [e] at hQ
    exact ⟨ba.divX (by decide) s0, bb.divX (by decide) s0, hQ⟩
  · rw [if_neg (by simpa using h0)]
    obtain ⟨e, s0⟩ := frac_val (a := a) (b := b) (s := ((Int.gcd a b : Nat) : Int)) hb (by rw [if_neg h0])
    rw [e] at hQ
    exact ⟨ba.divX (by decide) s0, bb.divX (by decide) s0, hQ⟩
def c_plus : Ct := fun ds Q => ∃ p q : Rat, ds = [fr p, fr q] ∧ (∃ m n, Bd m p ∧ Bd n q ∧ m + n < 13400) ∧ Q (fr (p + q))
theorem rd_plus (ds : List PyData) (Q : PyData → Prop) (hl : ds.length = 2) (h : c_plus ds Q) : t_plus c_fraction { nx := fun _ => Q .none, rt := Q } (startD 2 ds) := by
  obtain ⟨p, q, rfl, ⟨m, n, hp, hq, l⟩, hQ⟩ := h
  refine ⟨hp.1.mulW hq.2 (by omega), hq.1.mulW hp.2 (by omega), hp.2.mulW hq.2 (by omega), _, _, rfl, Int.ne_of_gt (Int.mul_pos (den_pos' p) (den_pos' q)), (hp.1.mul hq.2).add (hq.1.mul hp.2) (by omega) (by omega), (hp.2.mul hq.2).mono (by omega), ?_⟩
  rw [add_nd]
  exact hQ
def c_minus : Ct := fun ds Q => ∃ p q : Rat, ds = [fr p, fr q] ∧ (∃ m n, Bd m p ∧ Bd n q ∧ m + n < 13400) ∧ Q (fr (p - q))
theorem rd_minus (ds : List PyData) (Q : PyData → Prop) (hl : ds.length = 2) (h : c_minus ds Q) : t_minus c_fraction { nx := fun _ => Q .none, rt := Q } (startD 2 ds) := by
  obtain ⟨p, q, rfl, ⟨m, n, hp, hq, l⟩, hQ⟩ := h
  refine ⟨hp.1.mulW hq.2 (by omega), hq.1.mulW hp.2 (by omega), hp.2.mulW hq.2 (by omega), _, _, rfl, Int.ne_of_gt (Int.mul_pos (den_pos' p) (den_pos' q)), (hp.1.mul hq.2).sub (hq.1.mul hp.2) (by omega) (by omega), (hp.2.mul hq.2).mono (by omega), ?_⟩
  rw [sub_nd]
  exact hQ
def c_times : Ct := fun ds Q => ∃ p q : Rat, ds = [fr p, fr q] ∧ (∃ m n, Bd m p ∧ Bd n q ∧ m + n < 13400) ∧ Q (fr (p * q))
theorem rd_times (ds : List PyData) (Q : PyData → Prop) (hl : ds.length = 2) (h : c_times ds Q) : t_times c_fraction { nx := fun _ => Q .none, rt := Q } (startD 2 ds) := by
  obtain ⟨p, q, rfl, ⟨m, n, hp, hq, l⟩, hQ⟩ := h
  refine ⟨hp.1.mulW hq.1 (by omega), hp.2.mulW hq.2 (by omega), _, _, rfl, Int.ne_of_gt (Int.mul_pos (den_pos' p) (den_pos' q)), (hp.1.mul hq.1).mono (by omega), (hp.2.mul hq.2).mono (by omega), ?_⟩
  rw [mul_nd]
  exact hQ
def c_over : Ct := fun ds Q => ∃ p q : Rat, ds = [fr p, fr q] ∧ q ≠ 0 ∧ (∃ m n, Bd m p ∧ Bd n q ∧ m + n < 13400) ∧ Q (fr (p / q))
theorem rd_over (ds : List PyData) (Q : PyData → Prop) (hl : ds.length = 2) (h : c_over ds Q) : t_over c_fraction { nx := fun _ => Q .none, rt := Q } (startD 2 ds) := by
  obtain ⟨p, q, rfl, h0, ⟨m, n, hp, hq, l⟩, hQ⟩ := h
  refine ⟨hp.1.mulW hq.2 (by omega), hp.2.mulW hq.1 (by omega), _, _, rfl, ?_, (hp.1.mul hq.2).mono (by omega), (hp.2.mul hq.1).mono (by omega), ?_⟩
  · exact Int.mul_ne_zero (den_ne p) (num_ne h0)
  rw [div_nd p q h0]
  exact hQ
def c_less : Ct := fun ds Q => ∃ p q : Rat, ds = [fr p, fr q] ∧ (∃ m n, Bd m p ∧ Bd n q ∧ m + n < 900000) ∧ Q (.bool (decide (p < q)))
theorem rd_less (ds : List PyData) (Q : PyData → Prop) (hl : ds.length = 2) (h : c_less ds Q) : t_less { nx := fun _ => Q .none, rt := Q } (startD 2 ds) := by
  obtain ⟨p, q, rfl, ⟨m, n, hp, hq, l⟩, hQ⟩ := h
  refine ⟨hp.1.mulW hq.2 (by omega), hq.1.mulW hp.2 (by omega), ?_⟩
  have e : decide (p.num * (q.den : Int) < q.num * (p.den : Int)) = decide (p < q) := decide_eq_decide.mpr (Rat.lt_iff p q).symm
  show Q (.bool (decide (p.num * (q.den : Int) < q.num * (p.den : Int))))
  rw [e]
  exact hQ
end Mb
set_option Elab.async false
set_option linter.all false
set_option maxRecDepth 100000
set_option maxHeartbeats 1000000
namespace Mb
open PySem PySem.Spec PyProof.Rows L2
/-! ### roots -/
def c_whole_root : Ct := fun ds Q => ∃ n : Int, ds = [.int n] ∧ 0 ≤ n ∧ Bz 13300 n ∧ ∀ r : Int, 0 ≤ r → r * r ≤ n → n < (r + 1) * (r + 1) → Q (.int r)
theorem Bz.le {n : Nat} {i j : Int} (h : Bz n j) (h0 : 0 ≤ i) (l : i ≤ j) : Bz n i := by unfold Bz at *; omega
theorem sq_le_of {a b : Int} (ha : 0 ≤ a) (hb : 0 ≤ b) (h : a * a ≤ b * b) : a ≤ b := by
  rcases Int.lt_or_le b a with q | q
  · have h1 : b * b ≤ b * a := Int.mul_le_mul_of_nonneg_left (by omega) hb
    have h2 : b * a < a * a := Int.mul_lt_mul_of_pos_right q (by omega)
    omega
  · exact q
theorem le_sq {a : Int} (ha : 0 ≤ a) : a ≤ a * a := by
  rcases Int.lt_or_le 0 a with q | q
  · have := Int.mul_le_mul_of_nonneg_left (show (1 : Int) ≤ a by omega) ha
    omega
  · have : a = 0 := by omega
    subst this; decide
theorem two_fdiv (x : Int) : x.fdiv 2 = x / 2 := Int.fdiv_eq_ediv_of_nonneg x (by decide)
theorem rd_whole_root (ds : List PyData) (Q : PyData → Prop) (hl : ds.length = 1) (h : c_whole_root ds Q) : t_whole_root { nx := fun _ => Q .none, rt := Q } (startD 4 ds) := by
  obtain ⟨n, rfl, hn, bn, hQ⟩ := h
  have big : ∀ x : Int, 0 ≤ x → x ≤ n + n + 2 → Bz 13302 x := fun x h0 h1 => by
    have b2 : Bz 13301 (n + n) := bn.add bn (by decide) (by decide)
    exact Bz.le (b2.add (Bz.mono (show Bz 2 2 by unfold Bz; decide) (show 2 ≤ 13301 by decide)) (by decide) (by decide)) h0 h1
  show ∃ W : Nat → Dn → Prop, (∃ m, W m [some (.int n), some (.int 0), some (.int 1), none]) ∧ _
  refine ⟨fun m δ => ∃ h : Int, 1 ≤ h ∧ h ≤ n + n + 2 ∧ m = (n + 1 - h).toNat ∧ δ = [some (.int n), some (.int 0), some (.int h), none], ⟨_, 1, by omega, by omega, rfl, rfl⟩, ?_⟩
  rintro m δ ⟨h, h1, h2, rfl, rfl⟩
  refine ⟨(big h (by omega) h2).mulW (big h (by omega) h2) (by decide), ?_⟩
  show if decide (h * h ≤ n) = true then _ else _
  by_cases hh : h * h ≤ n
  · rw [if_pos (decide_eq_true hh)]
    have h3 := le_sq (show 0 ≤ h by omega)
    have two : Bz 2 2 := by unfold Bz; decide
    refine ⟨(big h (by omega) h2).mulW two (by decide), (n + 1 - h * 2).toNat, ?_, h * 2, by omega, by omega, rfl, rfl⟩
    omega
  · rw [if_neg (by simpa using hh)]
    refine ⟨fun m δ => ∃ lo hi : Int, ∃ z, 0 ≤ lo ∧ lo < hi ∧ hi ≤ h ∧ lo * lo ≤ n ∧ n < hi * hi ∧ m = (hi - lo).toNat ∧ δ = [some (.int n), some (.int lo), some (.int hi), z], ⟨_, 0, h, none, by omega, by omega, by omega, by omega, by omega, rfl, rfl⟩, ?_⟩
    rintro m δ ⟨lo, hi, z, l0, l1, l2, l3, l4, rfl, rfl⟩
    show if decide (1 < hi - lo) = true then _ else _
    by_cases hd : 1 < hi - lo
    · rw [if_pos (decide_eq_true hd)]
      have bs : Bz 13303 (lo + hi) := (big lo (by omega) (by omega)).add (big hi (by omega) (by omega)) (by decide) (by decide)
      have e2 := two_fdiv (lo + hi)
      have m1 : lo < (lo + hi) / 2 := by omega
      have m2 : (lo + hi) / 2 < hi := by omega
      refine ⟨bs.divX (by decide) (by decide), ?_⟩
      rw [e2]
      have bm := big ((lo + hi) / 2) (by omega) (by omega)
      refine ⟨bm.mulW bm (by decide), ?_⟩
      generalize (lo + hi) / 2 = a at *
      show if decide (a * a ≤ n) = true then _ else _
      by_cases ha : a * a ≤ n
      · rw [if_pos (decide_eq_true ha)]
        exact ⟨(hi - a).toNat, by omega, a, hi, some (.int a), by omega, m2, l2, ha, l4, rfl, rfl⟩
      · rw [if_neg (by simpa using ha)]
        exact ⟨(a - lo).toNat, by omega, lo, a, some (.int a), l0, m1, by omega, l3, by omega, rfl, rfl⟩
    · rw [if_neg (by simpa using hd)]
      have e : hi = lo + 1 := by omega
      subst e
      exact hQ lo l0 l3 l4
/-- a fraction's root: none below nought or where there is none -/
def c_root : Ct := fun ds Q => ∃ q : Rat, ds = [fr q] ∧ Bd 13300 q ∧ (∀ r : Rat, 0 ≤ r → r * r = q → Q (fr r)) ∧ ((∀ r : Rat, r * r ≠ q) → Q .none)
theorem sq_nonneg (a : Int) : 0 ≤ a * a := by
  rcases Int.le_total 0 a with h | h
  · exact Int.mul_nonneg h h
  · exact Int.mul_nonneg_of_nonpos_of_nonpos h h
theorem root_uniq {a r n : Int} (ha : 0 ≤ a) (e : a * a = n) (r0 : 0 ≤ r) (r1 : r * r ≤ n) (r2 : n < (r + 1) * (r + 1)) : r = a := by
  have h1 : r ≤ a := sq_le_of r0 ha (by omega)
  rcases Int.lt_or_le r a with q | q
  · have h2 : (r + 1) * (r + 1) ≤ a * a := by
      have := Int.mul_le_mul (show r + 1 ≤ a by omega) (show r + 1 ≤ a by omega) (by omega) ha
      exact this
    omega
  · omega
theorem sq_num_den (r : Rat) : (r * r).num = r.num * r.num ∧ (((r * r).den : Nat) : Int) = (r.den : Int) * (r.den : Int) := by
  have hc : (r.num * r.num).natAbs.Coprime ((r.den : Int) * (r.den : Int)).natAbs := by
    rw [Int.natAbs_mul, Int.natAbs_mul]
    have h := r.reduced
    have h2 : r.num.natAbs.Coprime ((r.den : Int)).natAbs := by simpa using h
    exact Nat.Coprime.mul_left (Nat.Coprime.mul_right h2 h2) (Nat.Coprime.mul_right h2 h2)
  have := div_mk (Int.mul_pos (den_pos' r) (den_pos' r)) hc
  rw [mul_nd] at this
  exact this
theorem rd_root (ds : List PyData) (Q : PyData → Prop) (hl : ds.length = 1) (h : c_root ds Q) : t_root c_whole_root { nx := fun _ => Q .none, rt := Q } (startD 3 ds) := by
  obtain ⟨q, rfl, bq, hr, hn⟩ := h
  show if decide (q.num < 0) = true then Q .none else _
  by_cases h0 : q.num < 0
  · rw [if_pos (decide_eq_true h0)]
    refine hn fun r e => ?_
    have := (sq_num_den r).1
    rw [e] at this
    have := sq_nonneg r.num
    omega
  · rw [if_neg (by simpa using h0)]
    refine ⟨q.num, rfl, by omega, bq.num, fun a a0 a1 a2 => ?_⟩
    refine ⟨(q.den : Int), rfl, by omega, bq.den, fun b b0 b1 b2 => ?_⟩
    have ba : Bz 13300 a := Bz.le bq.num a0 (by have := le_sq a0; omega)
    have bb : Bz 13300 b := Bz.le bq.den b0 (by have := le_sq b0; omega)
    refine ⟨ba.mulW ba (by decide), ?_⟩
    show if decide (a * a = q.num) = true then _ else _
    have none_of : ¬ (a * a = q.num ∧ b * b = (q.den : Int)) → Q .none := fun z => hn fun r e => z (by
      obtain ⟨e1, e2⟩ := sq_num_den r
      rw [e] at e1 e2
      have p1 : a = ((r.num.natAbs : Nat) : Int) := root_uniq (a := ((r.num.natAbs : Nat) : Int)) (by omega) (by rw [e1]; exact Int.natAbs_mul_self) a0 a1 a2
      have p2 : b = (r.den : Int) := root_uniq (by omega) e2.symm b0 b1 b2
      refine ⟨?_, by rw [p2]; exact e2.symm⟩
      rw [p1, e1]; exact Int.natAbs_mul_self)
    by_cases h1 : a * a = q.num
    · rw [if_pos (decide_eq_true h1)]
      refine ⟨bb.mulW bb (by decide), ?_⟩
      show if decide (b * b = (q.den : Int)) = true then _ else _
      by_cases h2 : b * b = (q.den : Int)
      · rw [if_pos (decide_eq_true h2)]
        have hb : 0 < b := by
          rcases Int.lt_or_le 0 b with q' | q'
          · exact q'
          · have : b = 0 := by omega
            subst this
            have := den_ne q
            omega
        have hc : a.natAbs.Coprime b.natAbs := by
          have h := q.reduced
          have h3 : (a * a).natAbs.Coprime (b * b).natAbs := by rw [h1, h2]; simpa using h
          rw [Int.natAbs_mul, Int.natAbs_mul] at h3
          exact Nat.Coprime.coprime_mul_left (Nat.Coprime.coprime_mul_left_right h3)
        obtain ⟨e1, e2⟩ := div_mk hb hc
        have sq : ((a : Rat) / b) * ((a : Rat) / b) = q := by
          rw [nd q, ← h1, ← h2, castMul, castMul]
          have hb' : (b : Rat) ≠ 0 := fun z => by have := Rat.intCast_eq_zero_iff.mp z; omega
          generalize (a : Rat) = x at *
          generalize (b : Rat) = y at *
          grind
        have nn : 0 ≤ (a : Rat) / b := by
          rw [← Rat.divInt_eq_div]
          exact Rat.divInt_nonneg a0 (by omega)
        have := hr _ nn sq
        unfold fr at this
        rw [e1, e2] at this
        exact this
      · rw [if_neg (by simpa using h2)]
        exact none_of fun z => h2 z.2
    · rw [if_neg (by simpa using h1)]
      exact none_of fun z => h1 z.1
end Mb
set_option Elab.async false
set_option linter.all false
set_option maxRecDepth 100000
set_option maxHeartbeats 1000000
namespace Mb
open PySem PySem.Spec PyProof.Rows L2
/-! ### places -/
abbrev Pl := Rat × Rat
def pl (p : Pl) : PyData := .tuple [fr p.1, fr p.2]
structure BP (n : Nat) (p : Pl) : Prop where
  x : Bd n p.1
  y : Bd n p.2
theorem BP.mono {m n : Nat} {p : Pl} (h : BP m p) (l : m ≤ n) : BP n p := ⟨h.x.mono l, h.y.mono l⟩
def share (p q : Pl) (t : Rat) : Pl := (p.1 + t * (q.1 - p.1), p.2 + t * (q.2 - p.2))
def c_share : Ct := fun ds Q => ∃ (p q : Pl) (t : Rat), ds = [pl p, pl q, fr t] ∧ (∃ m n k, BP m p ∧ BP n q ∧ Bd k t ∧ m + m + n + k < 13300) ∧ Q (pl (share p q t))
theorem rd_share (ds : List PyData) (Q : PyData → Prop) (hl : ds.length = 3) (h : c_share ds Q) : t_share c_plus c_times c_minus { nx := fun _ => Q .none, rt := Q } (startD 5 ds) := by
  obtain ⟨p, q, t, rfl, ⟨m, n, k, hp, hq, ht, l⟩, hQ⟩ := h
  refine ⟨_, _, rfl, ⟨_, _, hq.x, hp.x, by omega⟩, _, _, rfl, ⟨_, _, ht, hq.x.sub hp.x, by omega⟩, _, _, rfl, ⟨_, _, hp.x, ht.mul (hq.x.sub hp.x), by omega⟩, ?_⟩
  exact ⟨_, _, rfl, ⟨_, _, hq.y, hp.y, by omega⟩, _, _, rfl, ⟨_, _, ht, hq.y.sub hp.y, by omega⟩, _, _, rfl, ⟨_, _, hp.y, ht.mul (hq.y.sub hp.y), by omega⟩, hQ⟩
theorem fr_int (i : Int) : fr (i : Rat) = .tuple [.int i, .int 1] := by
  unfold fr
  rw [Rat.num_intCast, Rat.den_intCast]
  rfl
theorem fr_zero : fr 0 = .tuple [.int 0, .int 1] := fr_int 0
theorem fr_two : fr 2 = .tuple [.int 2, .int 1] := fr_int 2
theorem fr_half : fr (1 / 2) = .tuple [.int 1, .int 2] := by
  have h := div_mk (k := 1) (l := 2) (by decide) (by decide)
  have e : ((1 : Int) : Rat) / ((2 : Int) : Rat) = 1 / 2 := rfl
  rw [e] at h
  unfold fr
  rw [h.1, h.2]
theorem Bd.two : Bd 2 2 := Bd.int (i := 2) (by unfold Bz; decide) (by decide)
theorem Bd.half : Bd 2 (1 / 2) := Bd_of (a := 1) (b := 2) (by decide) rfl (by unfold Bz; decide) (by unfold Bz; decide)
def middle (p q : Pl) : Pl := share p q (1 / 2)
def beyond (p q : Pl) : Pl := share p q 2
def c_middle : Ct := fun ds Q => ∃ (p q : Pl), ds = [pl p, pl q] ∧ (∃ m n, BP m p ∧ BP n q ∧ m + m + n < 13200) ∧ Q (pl (middle p q))
def c_beyond : Ct := fun ds Q => ∃ (p q : Pl), ds = [pl p, pl q] ∧ (∃ m n, BP m p ∧ BP n q ∧ m + m + n < 13200) ∧ Q (pl (beyond p q))
theorem rd_middle (ds : List PyData) (Q : PyData → Prop) (hl : ds.length = 2) (h : c_middle ds Q) : t_middle c_share { nx := fun _ => Q .none, rt := Q } (startD 2 ds) := by
  obtain ⟨p, q, rfl, ⟨m, n, hp, hq, l⟩, hQ⟩ := h
  exact ⟨p, q, 1 / 2, by rw [fr_half], ⟨_, _, _, hp, hq, Bd.half, by omega⟩, hQ⟩
theorem rd_beyond (ds : List PyData) (Q : PyData → Prop) (hl : ds.length = 2) (h : c_beyond ds Q) : t_beyond c_share { nx := fun _ => Q .none, rt := Q } (startD 2 ds) := by
  obtain ⟨p, q, rfl, ⟨m, n, hp, hq, l⟩, hQ⟩ := h
  exact ⟨p, q, 2, by rw [fr_two], ⟨_, _, _, hp, hq, Bd.two, by omega⟩, hQ⟩
def turned (p q : Pl) : Pl := (q.1 - (p.2 - q.2), q.2 + (p.1 - q.1))
def c_turned : Ct := fun ds Q => ∃ (p q : Pl), ds = [pl p, pl q] ∧ (∃ m n, BP m p ∧ BP n q ∧ m + n + n < 13200) ∧ Q (pl (turned p q))
theorem rd_turned (ds : List PyData) (Q : PyData → Prop) (hl : ds.length = 2) (h : c_turned ds Q) : t_turned c_plus c_minus { nx := fun _ => Q .none, rt := Q } (startD 4 ds) := by
  obtain ⟨p, q, rfl, ⟨m, n, hp, hq, l⟩, hQ⟩ := h
  exact ⟨_, _, rfl, ⟨_, _, hp.x, hq.x, by omega⟩, _, _, rfl, ⟨_, _, hp.y, hq.y, by omega⟩, _, _, rfl, ⟨_, _, hq.x, hp.y.sub hq.y, by omega⟩, _, _, rfl, ⟨_, _, hq.y, hp.x.sub hq.x, by omega⟩, hQ⟩
/-! ### lines -/
structure Ln where
  a : Int
  b : Int
  c : Int
def ln (l : Ln) : PyData := .tuple [.int l.a, .int l.b, .int l.c]
structure BL (n : Nat) (l : Ln) : Prop where
  a : Bz n l.a
  b : Bz n l.b
  c : Bz n l.c
theorem BL.mono {m n : Nat} {l : Ln} (h : BL m l) (g : m ≤ n) : BL n l := ⟨h.a.mono g, h.b.mono g, h.c.mono g⟩
/-- the one form -/
structure Nm (l : Ln) : Prop where
  one : Int.gcd (Int.gcd l.a l.b : Int) l.c = 1
  pos : 0 < l.a ∨ (l.a = 0 ∧ 0 < l.b)
theorem Nm.ne {l : Ln} (h : Nm l) : ¬ (l.a = 0 ∧ l.b = 0) := by
  rintro ⟨h1, h2⟩
  rcases h.pos with h | h <;> omega
def ofSize (a b : Int) (c : Int) : Int := if a < 0 ∨ (a = 0 ∧ b < 0) then -((Int.gcd (Int.gcd a b : Int) c : Nat) : Int) else ((Int.gcd (Int.gcd a b : Int) c : Nat) : Int)
def oneForm (a b c : Int) : Ln := ⟨a.fdiv (ofSize a b c), b.fdiv (ofSize a b c), c.fdiv (ofSize a b c)⟩
theorem oneForm_spec {a b c : Int} (h : ¬ (a = 0 ∧ b = 0)) : ∃ s : Int, s ≠ 0 ∧ s = ofSize a b c ∧ a = s * (oneForm a b c).a ∧ b = s * (oneForm a b c).b ∧ c = s * (oneForm a b c).c ∧ Nm (oneForm a b c) := by
  have g1 : 0 < Int.gcd a b := by
    rcases Nat.eq_zero_or_pos (Int.gcd a b) with q | q
    · exact absurd (Int.gcd_eq_zero_iff.mp q) h
    · exact q
  have g2 : 0 < Int.gcd (Int.gcd a b : Int) c := Int.gcd_pos_of_ne_zero_left c (by omega)
  have hs : ofSize a b c ≠ 0 := by unfold ofSize; split <;> omega
  have hn : (ofSize a b c).natAbs = Int.gcd (Int.gcd a b : Int) c := by unfold ofSize; split <;> simp
  have dg : ((Int.gcd (Int.gcd a b : Int) c : Nat) : Int) ∣ ((Int.gcd a b : Nat) : Int) := Int.gcd_dvd_left ..
  have da : ofSize a b c ∣ a := by
    rw [← Int.natAbs_dvd, hn]; exact Int.dvd_trans dg (Int.gcd_dvd_left ..)
  have db : ofSize a b c ∣ b := by
    rw [← Int.natAbs_dvd, hn]; exact Int.dvd_trans dg (Int.gcd_dvd_right ..)
  have dc : ofSize a b c ∣ c := by
    rw [← Int.natAbs_dvd, hn]; exact Int.gcd_dvd_right ..
  have ea : a = ofSize a b c * (oneForm a b c).a := by
    obtain ⟨k, hk⟩ := da
    show a = ofSize a b c * a.fdiv (ofSize a b c)
    generalize ofSize a b c = s at *
    subst hk
    rw [Int.mul_fdiv_cancel_left _ hs]
  have eb : b = ofSize a b c * (oneForm a b c).b := by
    obtain ⟨k, hk⟩ := db
    show b = ofSize a b c * b.fdiv (ofSize a b c)
    generalize ofSize a b c = s at *
    subst hk
    rw [Int.mul_fdiv_cancel_left _ hs]
  have ec : c = ofSize a b c * (oneForm a b c).c := by
    obtain ⟨k, hk⟩ := dc
    show c = ofSize a b c * c.fdiv (ofSize a b c)
    generalize ofSize a b c = s at *
    subst hk
    rw [Int.mul_fdiv_cancel_left _ hs]
  have hneg : ofSize a b c < 0 ↔ (a < 0 ∨ (a = 0 ∧ b < 0)) := by
    unfold ofSize
    split <;> constructor <;> intro _ <;> first | assumption | omega
  refine ⟨ofSize a b c, hs, rfl, ea, eb, ec, ?_, ?_⟩
  · generalize ofSize a b c = s at *
    generalize oneForm a b c = l at *
    have e1 : Int.gcd a b = s.natAbs * Int.gcd l.a l.b := by rw [ea, eb, Int.gcd_mul_left]
    have e2 : Int.gcd (Int.gcd a b : Int) c = s.natAbs * Int.gcd (Int.gcd l.a l.b : Int) l.c := by
      rw [e1, ec]
      show Nat.gcd _ _ = _
      simp only [Int.natAbs_natCast, Int.natAbs_mul]
      rw [Nat.gcd_mul_left]
      rfl
    rw [← hn] at e2
    have h2 : s.natAbs * Int.gcd (Int.gcd l.a l.b : Int) l.c = s.natAbs * 1 := by omega
    exact Nat.eq_of_mul_eq_mul_left (by omega) h2
  · generalize ofSize a b c = s at *
    generalize oneForm a b c = l at *
    rcases Int.lt_or_gt_of_ne hs with q | q
    · rcases hneg.mp q with z | ⟨z1, z2⟩
      · left
        rcases Int.lt_or_le 0 l.a with w | w
        · exact w
        · have := Int.mul_nonneg_of_nonpos_of_nonpos (show s ≤ 0 by omega) w
          omega
      · right
        have e0 : l.a = 0 := by
          rw [z1] at ea
          rcases Int.mul_eq_zero.mp ea.symm with w | w
          · omega
          · exact w
        refine ⟨e0, ?_⟩
        rcases Int.lt_or_le 0 l.b with w | w
        · exact w
        · have := Int.mul_nonneg_of_nonpos_of_nonpos (show s ≤ 0 by omega) w
          omega
    · have nn : ¬ (a < 0 ∨ (a = 0 ∧ b < 0)) := fun z => by have := hneg.mpr z; omega
      rcases Int.lt_or_le 0 a with w | w
      · left
        rcases Int.lt_or_le 0 l.a with v | v
        · exact v
        · have := Int.mul_nonpos_of_nonneg_of_nonpos (show 0 ≤ s by omega) v
          omega
      · have a0 : a = 0 := by
          rcases Int.lt_or_le a 0 with v | v
          · exact absurd (.inl v) nn
          · omega
        right
        have e0 : l.a = 0 := by
          rw [a0] at ea
          rcases Int.mul_eq_zero.mp ea.symm with w | w
          · omega
          · exact w
        refine ⟨e0, ?_⟩
        rcases Int.lt_or_le 0 l.b with v | v
        · exact v
        · have := Int.mul_nonpos_of_nonneg_of_nonpos (show 0 ≤ s by omega) v
          exfalso
          apply nn
          right
          refine ⟨a0, ?_⟩
          have : b ≠ 0 := fun z => h ⟨a0, z⟩
          omega
def c_one_form : Ct := fun ds Q => ∃ a b c : Int, ds = [.int a, .int b, .int c] ∧ ¬ (a = 0 ∧ b = 0) ∧ (Bz 13400 a ∧ Bz 13400 b ∧ Bz 13400 c) ∧ Q (ln (oneForm a b c))
theorem rd_one_form (ds : List PyData) (Q : PyData → Prop) (hl : ds.length = 3) (h : c_one_form ds Q) : t_one_form c_divisor { nx := fun _ => Q .none, rt := Q } (startD 4 ds) := by
  obtain ⟨a, b, c, rfl, h0, ⟨ba, bb, bc⟩, hQ⟩ := h
  obtain ⟨s, s0, e, _⟩ := oneForm_spec (c := c) h0
  rw [e] at s0
  refine ⟨a, b, rfl, _, c, rfl, ?_⟩
  show if decide (a < 0) = true then _ else _
  have fin : ∀ s, s = ofSize a b c → CDivX a s ∧ CDivX b s ∧ CDivX c s ∧ Q (.tuple [.int (a.fdiv s), .int (b.fdiv s), .int (c.fdiv s)]) := fun s e => by
    subst e
    exact ⟨ba.divX (by decide) s0, bb.divX (by decide) s0, bc.divX (by decide) s0, hQ⟩
  by_cases h1 : a < 0
  · rw [if_pos (decide_eq_true h1)]
    exact fin _ (by unfold ofSize; rw [if_pos (.inl h1)])
  · rw [if_neg (by simpa using h1)]
    show if decide (a = 0) = true then _ else _
    by_cases h2 : a = 0
    · rw [if_pos (decide_eq_true h2)]
      show if decide (b < 0) = true then _ else _
      by_cases h3 : b < 0
      · rw [if_pos (decide_eq_true h3)]
        exact fin _ (by unfold ofSize; rw [if_pos (.inr ⟨h2, h3⟩)])
      · rw [if_neg (by simpa using h3)]
        exact fin _ (by unfold ofSize; rw [if_neg (by omega)])
    · rw [if_neg (by simpa using h2)]
      exact fin _ (by unfold ofSize; rw [if_neg (by omega)])
end Mb
set_option Elab.async false
set_option linter.all false
set_option maxRecDepth 100000
set_option maxHeartbeats 1000000
namespace Mb
open PySem PySem.Spec PyProof.Rows L2
local macro_rules | `(tactic| walk_at "nrm") => `(tactic| try dsimp only [startD, setAll, gSub, gAdd, gNeg, List.map, List.length, List.replicate, HAppend.hAppend, Append.append, List.append, List.set, Nat.reduceAdd, Nat.reduceSub])
/-! ### == of fractions and places -/
theorem rat_ext_iff {p q : Rat} : p = q ↔ (p.num = q.num ∧ (p.den : Int) = (q.den : Int)) := by
  constructor
  · intro h; subst h; exact ⟨rfl, rfl⟩
  · rintro ⟨h1, h2⟩; exact Rat.ext h1 (by omega)
theorem eqv_fr (p q : Rat) : PyData.eqv (fr p) (fr q) = decide (p = q) := by
  rw [decide_eq_decide.mpr (rat_ext_iff (p := p) (q := q))]
  unfold fr
  simp only [PyData.eqv, PyData.eqvAll, Bool.and_true]
  rw [Bool.decide_and, Bool.beq_eq_decide_eq, Bool.beq_eq_decide_eq]
theorem eqv_pl (p q : Pl) : PyData.eqv (pl p) (pl q) = decide (p = q) := by
  have e : (p = q) ↔ (p.1 = q.1 ∧ p.2 = q.2) := Prod.ext_iff
  rw [decide_eq_decide.mpr e]
  show (PyData.eqv (fr p.1) (fr q.1) && (PyData.eqv (fr p.2) (fr q.2) && true)) = _
  rw [eqv_fr, eqv_fr, Bool.and_true, Bool.decide_and]
theorem cEq_fr {p q : Rat} {Q : Bool → Prop} (h : Q (decide (p = q))) : cEq (fr p) (fr q) Q := ⟨⟨rfl, rfl⟩, by rw [eqv_fr]; exact h⟩
theorem cEq_pl {p q : Pl} {Q : Bool → Prop} (h : Q (decide (p = q))) : cEq (pl p) (pl q) Q := ⟨⟨rfl, rfl⟩, by rw [eqv_pl]; exact h⟩
/-! ### lines -/
def ox (p : Pl) : Int := p.1.num * (p.2.den : Int)
def oy (p : Pl) : Int := p.2.num * (p.1.den : Int)
def ow (p : Pl) : Int := (p.1.den : Int) * (p.2.den : Int)
theorem ow_pos (p : Pl) : 0 < ow p := Int.mul_pos (den_pos' _) (den_pos' _)
theorem ow_ne (p : Pl) : ((ow p : Int) : Rat) ≠ 0 := fun z => by have := Rat.intCast_eq_zero_iff.mp z; have := ow_pos p; omega
theorem ox_eq (p : Pl) : p.1 = (ox p : Rat) / (ow p : Rat) := by
  have h1 := nd p.1
  have d1 := den_neR p.1
  have d2 := den_neR p.2
  unfold ox ow
  rw [castMul, castMul]
  generalize (p.1.num : Rat) = a at *
  generalize ((p.1.den : Int) : Rat) = c at *
  generalize ((p.2.den : Int) : Rat) = d at *
  rw [h1]
  grind
theorem oy_eq (p : Pl) : p.2 = (oy p : Rat) / (ow p : Rat) := by
  have h1 := nd p.2
  have d1 := den_neR p.1
  have d2 := den_neR p.2
  unfold oy ow
  rw [castMul, castMul]
  generalize (p.2.num : Rat) = a at *
  generalize ((p.1.den : Int) : Rat) = c at *
  generalize ((p.2.den : Int) : Rat) = d at *
  rw [h1]
  grind
structure BO (n : Nat) (p : Pl) : Prop where
  x : Bz (n + n) (ox p)
  y : Bz (n + n) (oy p)
  w : Bz (n + n) (ow p)
theorem BP.o {n : Nat} {p : Pl} (h : BP n p) : BO n p := ⟨h.x.num.mul h.y.den, h.y.num.mul h.x.den, h.x.den.mul h.y.den⟩
def c_over_one : Ct := fun ds Q => ∃ p : Pl, ds = [pl p] ∧ (∃ n, BP n p ∧ n + n < 900000) ∧ Q (.tuple [.int (ox p), .int (oy p), .int (ow p)])
theorem rd_over_one (ds : List PyData) (Q : PyData → Prop) (hl : ds.length = 1) (h : c_over_one ds Q) : t_over_one { nx := fun _ => Q .none, rt := Q } (startD 1 ds) := by
  obtain ⟨p, rfl, ⟨n, hp, l⟩, hQ⟩ := h
  exact ⟨hp.x.num.mulW hp.y.den (by omega), hp.y.num.mulW hp.x.den (by omega), hp.x.den.mulW hp.y.den (by omega), hQ⟩
def through (p q : Pl) : Ln := oneForm (oy p * ow q - oy q * ow p) (ow p * ox q - ow q * ox p) (oy p * ox q - ox p * oy q)
def along (p : Pl) (l : Ln) : Ln := oneForm (l.a * ow p) (l.b * ow p) (l.a * ox p + l.b * oy p)
def upright (p : Pl) (l : Ln) : Ln := oneForm (l.b * ow p) (-l.a * ow p) (l.b * ox p - l.a * oy p)
theorem through_ne {p q : Pl} (h : p ≠ q) : ¬ (oy p * ow q - oy q * ow p = 0 ∧ ow p * ox q - ow q * ox p = 0) := by
  rintro ⟨h1, h2⟩
  apply h
  have e1 := ox_eq p
  have e2 := oy_eq p
  have e3 := ox_eq q
  have e4 := oy_eq q
  have w1 := ow_ne p
  have w2 := ow_ne q
  have k1 : (oy p : Rat) * ow q - oy q * ow p = 0 := by rw [← castMul, ← castMul, ← castSub, h1]; rfl
  have k2 : (ow p : Rat) * ox q - ow q * ox p = 0 := by rw [← castMul, ← castMul, ← castSub, h2]; rfl
  refine Prod.ext ?_ ?_
  · rw [e1, e3]
    generalize (ox p : Rat) = a at *
    generalize (ow p : Rat) = b at *
    generalize (ox q : Rat) = c at *
    generalize (ow q : Rat) = d at *
    grind
  · rw [e2, e4]
    generalize (oy p : Rat) = a at *
    generalize (ow p : Rat) = b at *
    generalize (oy q : Rat) = c at *
    generalize (ow q : Rat) = d at *
    grind
def c_through : Ct := fun ds Q => ∃ p q : Pl, ds = [pl p, pl q] ∧ (∃ m n, BP m p ∧ BP n q ∧ m + m + n + n < 13300) ∧ (p = q → Q .none) ∧ (p ≠ q → Q (ln (through p q)))
theorem rd_through (ds : List PyData) (Q : PyData → Prop) (hl : ds.length = 2) (h : c_through ds Q) : t_through c_one_form c_over_one { nx := fun _ => Q .none, rt := Q } (startD 8 ds) := by
  obtain ⟨p, q, rfl, ⟨m, n, hp, hq, l⟩, h1, h2⟩ := h
  refine ⟨⟨rfl, rfl⟩, ?_⟩
  rw [eqv_pl]
  show if decide (p = q) = true then _ else _
  by_cases e : p = q
  · rw [if_pos (decide_eq_true e)]
    exact h1 e
  · rw [if_neg (by simpa using e)]
    have bp := hp.o
    have bq := hq.o
    refine ⟨p, rfl, ⟨_, hp, by omega⟩, rfl, q, rfl, ⟨_, hq, by omega⟩, rfl, ?_⟩
    walk_at "nrm"
    refine ⟨bp.y.mulW bq.w (by omega), bq.y.mulW bp.w (by omega), bp.w.mulW bq.x (by omega), bq.w.mulW bp.x (by omega), bp.y.mulW bq.x (by omega), bp.x.mulW bq.y (by omega), _, _, _, rfl, through_ne e, ⟨?_, ?_, ?_⟩, h2 e⟩
    · exact (bp.y.mul bq.w).sub (bq.y.mul bp.w) (by omega) (by omega)
    · exact (bp.w.mul bq.x).sub (bq.w.mul bp.x) (by omega) (by omega)
    · exact (bp.y.mul bq.x).sub (bp.x.mul bq.y) (by omega) (by omega)
theorem along_ne {p : Pl} {l : Ln} (h : Nm l) : ¬ (l.a * ow p = 0 ∧ l.b * ow p = 0) := by
  rintro ⟨h1, h2⟩
  have w := ow_pos p
  apply h.ne
  refine ⟨?_, ?_⟩
  · rcases Int.mul_eq_zero.mp h1 with z | z <;> omega
  · rcases Int.mul_eq_zero.mp h2 with z | z <;> omega
theorem upright_ne {p : Pl} {l : Ln} (h : Nm l) : ¬ (l.b * ow p = 0 ∧ -l.a * ow p = 0) := by
  rintro ⟨h1, h2⟩
  have w := ow_pos p
  apply h.ne
  refine ⟨?_, ?_⟩
  · rcases Int.mul_eq_zero.mp h2 with z | z <;> omega
  · rcases Int.mul_eq_zero.mp h1 with z | z <;> omega
def c_along : Ct := fun ds Q => ∃ (p : Pl) (l : Ln), ds = [pl p, ln l] ∧ Nm l ∧ (∃ m n, BP m p ∧ BL n l ∧ m + m + n < 13300) ∧ Q (ln (along p l))
def c_upright : Ct := fun ds Q => ∃ (p : Pl) (l : Ln), ds = [pl p, ln l] ∧ Nm l ∧ (∃ m n, BP m p ∧ BL n l ∧ m + m + n < 13300) ∧ Q (ln (upright p l))
theorem rd_along (ds : List PyData) (Q : PyData → Prop) (hl : ds.length = 2) (h : c_along ds Q) : t_along c_one_form c_over_one { nx := fun _ => Q .none, rt := Q } (startD 5 ds) := by
  obtain ⟨p, l, rfl, nl, ⟨m, n, hp, hl', g⟩, hQ⟩ := h
  have bp := hp.o
  exact ⟨p, rfl, ⟨_, hp, by omega⟩, rfl, hl'.a.mulW bp.w (by omega), hl'.b.mulW bp.w (by omega), hl'.a.mulW bp.x (by omega), hl'.b.mulW bp.y (by omega), _, _, _, rfl, along_ne nl, ⟨(hl'.a.mul bp.w).mono (by omega), (hl'.b.mul bp.w).mono (by omega), (hl'.a.mul bp.x).add (hl'.b.mul bp.y) (by omega) (by omega)⟩, hQ⟩
theorem rd_upright (ds : List PyData) (Q : PyData → Prop) (hl : ds.length = 2) (h : c_upright ds Q) : t_upright c_one_form c_over_one { nx := fun _ => Q .none, rt := Q } (startD 5 ds) := by
  obtain ⟨p, l, rfl, nl, ⟨m, n, hp, hl', g⟩, hQ⟩ := h
  have bp := hp.o
  exact ⟨p, rfl, ⟨_, hp, by omega⟩, rfl, hl'.b.mulW bp.w (by omega), hl'.a.neg.mulW bp.w (by omega), hl'.b.mulW bp.x (by omega), hl'.a.mulW bp.y (by omega), _, _, _, rfl, upright_ne nl, ⟨(hl'.b.mul bp.w).mono (by omega), (hl'.a.neg.mul bp.w).mono (by omega), (hl'.b.mul bp.x).sub (hl'.a.mul bp.y) (by omega) (by omega)⟩, hQ⟩
def par (l m : Ln) : Prop := l.a * m.b - l.b * m.a = 0
instance (l m : Ln) : Decidable (par l m) := inferInstanceAs (Decidable (_ = _))
def meet (l m : Ln) : Pl := (((l.c * m.b - l.b * m.c : Int) : Rat) / ((l.a * m.b - l.b * m.a : Int) : Rat), ((l.a * m.c - l.c * m.a : Int) : Rat) / ((l.a * m.b - l.b * m.a : Int) : Rat))
def c_meet : Ct := fun ds Q => ∃ (l m : Ln), ds = [ln l, ln m] ∧ (∃ j k, BL j l ∧ BL k m ∧ j + k < 13300) ∧ (par l m → Q .none) ∧ (¬ par l m → Q (pl (meet l m)))
theorem rd_meet (ds : List PyData) (Q : PyData → Prop) (hl : ds.length = 2) (h : c_meet ds Q) : t_meet c_fraction { nx := fun _ => Q .none, rt := Q } (startD 9 ds) := by
  obtain ⟨l, m, rfl, ⟨j, k, bl, bm, g⟩, h1, h2⟩ := h
  refine ⟨rfl, rfl, ?_⟩
  walk_at "nrm"
  refine ⟨bl.a.mulW bm.b (by omega), bl.b.mulW bm.a (by omega), ?_⟩
  walk_at "nrm"
  show if decide (l.a * m.b - l.b * m.a = 0) = true then _ else _
  by_cases e : par l m
  · rw [if_pos (decide_eq_true (show l.a * m.b - l.b * m.a = 0 from e))]
    exact h1 e
  · rw [if_neg (by simpa [par] using e)]
    have bs := (bl.a.mul bm.b).sub (bl.b.mul bm.a) (show j + k < 13400 by omega) (show j + k < 13400 by omega)
    exact ⟨bl.c.mulW bm.b (by omega), bl.b.mulW bm.c (by omega), _, _, rfl, e, (bl.c.mul bm.b).sub (bl.b.mul bm.c) (by omega) (by omega), bs, bl.a.mulW bm.c (by omega), bl.c.mulW bm.a (by omega), _, _, rfl, e, (bl.a.mul bm.c).sub (bl.c.mul bm.a) (by omega) (by omega), bs, h2 e⟩
/-- a line of one form that whole numbers are a multiple of is no greater than these -/
theorem oneForm_size {n : Nat} {a b c : Int} (h : ¬ (a = 0 ∧ b = 0)) (ba : Bz n a) (bb : Bz n b) (bc : Bz n c) : BL n (oneForm a b c) := by
  obtain ⟨s, s0, _, ea, eb, ec, _⟩ := oneForm_spec (c := c) h
  have key : ∀ x y : Int, x = s * y → Bz n x → Bz n y := fun x y e hx => by
    unfold Bz at *
    rw [e, Int.natAbs_mul] at hx
    exact Nat.lt_of_le_of_lt (Nat.le_mul_of_pos_left _ (by omega)) hx
  exact ⟨key _ _ ea ba, key _ _ eb bb, key _ _ ec bc⟩
theorem upright_size {m n : Nat} {p : Pl} {l : Ln} (nl : Nm l) (hp : BP m p) (hl : BL n l) : BL (m + m + n + 1) (upright p l) := by
  have bp := hp.o
  exact oneForm_size (upright_ne nl) ((hl.b.mul bp.w).mono (by omega)) ((hl.a.neg.mul bp.w).mono (by omega)) ((hl.b.mul bp.x).sub (hl.a.mul bp.y) (by omega) (by omega))
theorem along_size {m n : Nat} {p : Pl} {l : Ln} (nl : Nm l) (hp : BP m p) (hl : BL n l) : BL (m + m + n + 1) (along p l) := by
  have bp := hp.o
  exact oneForm_size (along_ne nl) ((hl.a.mul bp.w).mono (by omega)) ((hl.b.mul bp.w).mono (by omega)) ((hl.a.mul bp.x).add (hl.b.mul bp.y) (by omega) (by omega))
theorem upright_nm {p : Pl} {l : Ln} (nl : Nm l) : Nm (upright p l) := let ⟨_, _, _, _, _, _, h⟩ := oneForm_spec (c := l.b * ox p - l.a * oy p) (upright_ne (p := p) nl); h
theorem along_nm {p : Pl} {l : Ln} (nl : Nm l) : Nm (along p l) := let ⟨_, _, _, _, _, _, h⟩ := oneForm_spec (c := l.a * ox p + l.b * oy p) (along_ne (p := p) nl); h
theorem through_nm {p q : Pl} (h : p ≠ q) : Nm (through p q) := let ⟨_, _, _, _, _, _, h⟩ := oneForm_spec (c := oy p * ox q - ox p * oy q) (through_ne h); h
/-- l's square: a a + b b -/
def nn (l : Ln) : Int := l.a * l.a + l.b * l.b
theorem nn_pos {l : Ln} (h : Nm l) : 0 < nn l := by
  unfold nn
  have h1 := sq_nonneg l.a
  have h2 := sq_nonneg l.b
  have n0 := h.ne
  rcases h.pos with z | ⟨z1, z2⟩
  · have := Int.mul_pos z z; omega
  · have := Int.mul_pos z2 z2; omega
theorem upright_perp {p : Pl} {l : Ln} (nl : Nm l) : l.a * (upright p l).a + l.b * (upright p l).b = 0 ∧ ¬ par l (upright p l) := by
  obtain ⟨s, s0, _, ea, eb, ec, _⟩ := oneForm_spec (c := l.b * ox p - l.a * oy p) (upright_ne (p := p) nl)
  have n0 := nn_pos nl
  have w := ow_pos p
  show l.a * (oneForm _ _ _).a + l.b * (oneForm _ _ _).b = 0 ∧ ¬ (l.a * (oneForm _ _ _).b - l.b * (oneForm _ _ _).a = 0)
  generalize oneForm (l.b * ow p) (-l.a * ow p) (l.b * ox p - l.a * oy p) = u at *
  unfold nn at n0
  refine ⟨?_, fun z => ?_⟩
  · have : s * (l.a * u.a + l.b * u.b) = 0 := by grind
    rcases Int.mul_eq_zero.mp this with q | q
    · exact absurd q s0
    · exact q
  · have h3 : s * (l.a * u.b - l.b * u.a) = -((l.a * l.a + l.b * l.b) * ow p) := by grind
    rw [z] at h3
    have h4 := Int.mul_pos n0 w
    simp at h3
    omega
def foot (p : Pl) (l : Ln) : Pl := meet l (upright p l)
def c_foot : Ct := fun ds Q => ∃ (p : Pl) (l : Ln), ds = [pl p, ln l] ∧ Nm l ∧ (∃ m n, BP m p ∧ BL n l ∧ m + m + n + n < 13200) ∧ Q (pl (foot p l))
theorem rd_foot (ds : List PyData) (Q : PyData → Prop) (hl : ds.length = 2) (h : c_foot ds Q) : t_foot c_meet c_upright { nx := fun _ => Q .none, rt := Q } (startD 2 ds) := by
  obtain ⟨p, l, rfl, nl, ⟨m, n, hp, hl', g⟩, hQ⟩ := h
  exact ⟨p, l, rfl, nl, ⟨_, _, hp, hl', by omega⟩, _, _, rfl, ⟨_, _, hl', upright_size nl hp hl', by omega⟩, fun z => absurd z (upright_perp nl).2, fun _ => hQ⟩
def mirror (p : Pl) (l : Ln) : Pl := beyond p (foot p l)
def c_mirror : Ct := fun ds Q => ∃ (p : Pl) (l : Ln), ds = [pl p, ln l] ∧ Nm l ∧ (∃ m n k, BP m p ∧ BL n l ∧ BP k (foot p l) ∧ m + m + n + n < 13200 ∧ m + m + k < 13200) ∧ Q (pl (mirror p l))
theorem rd_mirror (ds : List PyData) (Q : PyData → Prop) (hl : ds.length = 2) (h : c_mirror ds Q) : t_mirror c_beyond c_foot { nx := fun _ => Q .none, rt := Q } (startD 2 ds) := by
  obtain ⟨p, l, rfl, nl, ⟨m, n, k, hp, hl', hk, g, g2⟩, hQ⟩ := h
  exact ⟨p, l, rfl, nl, ⟨_, _, hp, hl', by omega⟩, _, _, rfl, ⟨_, _, hp, hk, by omega⟩, hQ⟩
end Mb
set_option Elab.async false
set_option linter.all false
set_option maxRecDepth 100000
set_option maxHeartbeats 1000000
namespace Mb
open PySem PySem.Spec PyProof.Rows L2
local macro_rules | `(tactic| walk_at "nrm") => `(tactic| try dsimp only [startD, setAll, gSub, gAdd, gNeg, List.map, List.length, List.replicate, HAppend.hAppend, Append.append, List.append, List.set, Nat.reduceAdd, Nat.reduceSub])
theorem seqSetV {i : Nat} {t : TD} {u : TDS} {E : DE} {δ : Dn} {d : PyData} (ht : ∀ P : PyData → Prop, P d → t δ P) (h : u E (δ.set i (some d))) : dSeq (dSet i t) u E δ := ht _ h
theorem seqIfT {c : TDT} {a b u : TDS} {E : DE} {δ : Dn} (hc : ∀ P : Bool → Prop, P true → c δ P) (h : a { E with nx := u E } δ) : dSeq (dIf c a b) u E δ := hc _ (iteT h)
theorem seqIfF {c : TDT} {a b u : TDS} {E : DE} {δ : Dn} (hc : ∀ P : Bool → Prop, P false → c δ P) (h : b { E with nx := u E } δ) : dSeq (dIf c a b) u E δ := hc _ (iteF h)
theorem seqSkip {u : TDS} {E : DE} {δ : Dn} (h : u E δ) : dSkip { E with nx := u E } δ := h
/-! ### circles -/
def sqb (p q : Pl) : Rat := (p.1 - q.1) * (p.1 - q.1) + (p.2 - q.2) * (p.2 - q.2)
def c_square_between : Ct := fun ds Q => ∃ p q : Pl, ds = [pl p, pl q] ∧ (∃ m n, BP m p ∧ BP n q ∧ m + n < 3300) ∧ Q (fr (sqb p q))
theorem rd_square_between (ds : List PyData) (Q : PyData → Prop) (hl : ds.length = 2) (h : c_square_between ds Q) : t_square_between c_plus c_times c_minus { nx := fun _ => Q .none, rt := Q } (startD 4 ds) := by
  obtain ⟨p, q, rfl, ⟨m, n, hp, hq, l⟩, hQ⟩ := h
  have bx := hp.x.sub hq.x
  have by_ := hp.y.sub hq.y
  exact ⟨_, _, rfl, ⟨_, _, hp.x, hq.x, by omega⟩, _, _, rfl, ⟨_, _, hp.y, hq.y, by omega⟩, _, _, rfl, ⟨_, _, bx, bx, by omega⟩, _, _, rfl, ⟨_, _, by_, by_, by omega⟩, _, _, rfl, ⟨_, _, bx.mul bx, by_.mul by_, by omega⟩, hQ⟩
structure Ci where
  x : Rat
  y : Rat
  s : Rat
def Ci.c (C : Ci) : Pl := (C.x, C.y)
def ci (C : Ci) : PyData := .tuple [fr C.x, fr C.y, fr C.s]
def about (p q : Pl) : Ci := ⟨p.1, p.2, sqb p q⟩
def c_about : Ct := fun ds Q => ∃ p q : Pl, ds = [pl p, pl q] ∧ (∃ m n, BP m p ∧ BP n q ∧ m + n < 3300) ∧ (p = q → Q .none) ∧ (p ≠ q → Q (ci (about p q)))
theorem rd_about (ds : List PyData) (Q : PyData → Prop) (hl : ds.length = 2) (h : c_about ds Q) : t_about c_square_between { nx := fun _ => Q .none, rt := Q } (startD 2 ds) := by
  obtain ⟨p, q, rfl, hs, h1, h2⟩ := h
  refine ⟨⟨rfl, rfl⟩, ?_⟩
  rw [eqv_pl]
  show if decide (p = q) = true then _ else _
  by_cases e : p = q
  · rw [if_pos (decide_eq_true e)]
    exact h1 e
  · rw [if_neg (by simpa using e)]
    exact ⟨p, q, rfl, hs, h2 e⟩
def aheadB (p q : Pl) : Bool := if p.1 = q.1 then decide (p.2 < q.2) else decide (p.1 < q.1)
def c_ahead : Ct := fun ds Q => ∃ p q : Pl, ds = [pl p, pl q] ∧ (∃ m n, BP m p ∧ BP n q ∧ m + n < 900000) ∧ Q (.bool (aheadB p q))
theorem rd_ahead (ds : List PyData) (Q : PyData → Prop) (hl : ds.length = 2) (h : c_ahead ds Q) : t_ahead c_less { nx := fun _ => Q .none, rt := Q } (startD 2 ds) := by
  obtain ⟨p, q, rfl, ⟨m, n, hp, hq, l⟩, hQ⟩ := h
  refine ⟨⟨rfl, rfl⟩, ?_⟩
  rw [eqv_fr]
  show if decide (p.1 = q.1) = true then _ else _
  unfold aheadB at hQ
  by_cases e : p.1 = q.1
  · rw [if_pos (decide_eq_true e)]
    rw [if_pos e] at hQ
    exact ⟨_, _, rfl, ⟨_, _, hp.y, hq.y, l⟩, hQ⟩
  · rw [if_neg (by simpa using e)]
    rw [if_neg e] at hQ
    exact ⟨_, _, rfl, ⟨_, _, hp.x, hq.x, l⟩, hQ⟩
/-! ### what a line and a circle have in common -/
def nR (l : Ln) : Rat := ((nn l : Int) : Rat)
def eR (l : Ln) (p : Pl) : Rat := (l.c : Rat) - ((l.a : Rat) * p.1 + (l.b : Rat) * p.2)
def dR (l : Ln) (C : Ci) : Rat := C.s * nR l - eR l C.c * eR l C.c
theorem nR_pos {l : Ln} (h : Nm l) : 0 < nR l := Rat.intCast_pos.mpr (nn_pos h)
theorem nR_ne {l : Ln} (h : Nm l) : nR l ≠ 0 := fun z => by have := nR_pos h; rw [z] at this; exact Rat.lt_irrefl this
def mX (l : Ln) (C : Ci) : Rat := C.x + (l.a : Rat) * eR l C.c / nR l
def mY (l : Ln) (C : Ci) : Rat := C.y + (l.b : Rat) * eR l C.c / nR l
def rX (l : Ln) (r : Rat) : Rat := r * (l.b : Rat) / nR l
def rY (l : Ln) (r : Rat) : Rat := r * (l.a : Rat) / nR l
def cutOne (l : Ln) (C : Ci) (r : Rat) : Pl := (mX l C + rX l r, mY l C - rY l r)
def cutTwo (l : Ln) (C : Ci) (r : Rat) : Pl := (mX l C - rX l r, mY l C + rY l r)
def cutFst (l : Ln) (C : Ci) (r : Rat) : Pl := if aheadB (cutTwo l C r) (cutOne l C r) = true then cutTwo l C r else cutOne l C r
def cutSnd (l : Ln) (C : Ci) (r : Rat) : Pl := if aheadB (cutTwo l C r) (cutOne l C r) = true then cutOne l C r else cutTwo l C r
/-- the sizes that line_cuts asks -/
structure SzCut (l : Ln) (C : Ci) : Prop where
  ex : ∃ L m c k ρ, 0 < L ∧ BL L l ∧ BP m C.c ∧ Bd c C.s ∧ Bd k (eR l C.c) ∧ 3 * L + 2 * m + 2 < 13300 ∧ c + 2 * L + 2 * k + 2 ≤ 2 * ρ ∧ 2 * ρ < 13300 ∧ m + 6 * L + k + ρ + 3 < 13300
/-- what is wanted of the cut of a line and a circle -/
def CutQ (l : Ln) (C : Ci) (Q : PyData → Prop) : Prop := (dR l C < 0 → Q (.tuple [.str "miss", .list []])) ∧ (0 ≤ dR l C → (∀ r : Rat, r * r ≠ dR l C) → Q (.tuple [.str "root", .list []])) ∧
  (∀ r : Rat, 0 ≤ r → r * r = dR l C → Q (.tuple [.str "at", .list [pl (cutFst l C r), pl (cutSnd l C r)]]))
def c_line_cuts : Ct := fun ds Q => ∃ (l : Ln) (C : Ci), ds = [ln l, ci C] ∧ Nm l ∧ SzCut l C ∧ CutQ l C Q
theorem root_size {ρ : Nat} {r d : Rat} (e : r * r = d) (h : Bd (2 * ρ) d) : Bd ρ r := by
  obtain ⟨e1, e2⟩ := sq_num_den r
  rw [e] at e1 e2
  have key : ∀ x y : Int, y = x * x → Bz (2 * ρ) y → Bz ρ x := fun x y e h => by
    unfold Bz at *
    rw [e, Int.natAbs_mul, show 2 * ρ = ρ + ρ by omega, Nat.pow_add] at h
    rcases Nat.lt_or_ge x.natAbs (2 ^ ρ) with q | q
    · exact q
    · have := Nat.mul_le_mul q q
      omega
  exact ⟨key _ _ e1 h.1, key _ _ e2 h.2⟩
theorem nn_size {L : Nat} {l : Ln} (h : BL L l) : Bz (2 * L + 1) (nn l) := (h.a.mul h.a).add (h.b.mul h.b) (by omega) (by omega)
theorem rd_line_cuts (ds : List PyData) (Q : PyData → Prop) (hl : ds.length = 2) (h : c_line_cuts ds Q) : t_line_cuts c_ahead c_plus c_minus c_over c_times c_root c_less { nx := fun _ => Q .none, rt := Q } (startD 14 ds) := by
  obtain ⟨l, C, rfl, nl, ⟨L, m, c, k, ρ, L0, bl, bm, bs, bk, g1, g2, g3, g4⟩, h1, h2, h3⟩ := h
  have ba : Bd L (l.a : Rat) := Bd.int bl.a L0
  have bb : Bd L (l.b : Rat) := Bd.int bl.b L0
  have bc : Bd L (l.c : Rat) := Bd.int bl.c L0
  have bn : Bd (2 * L + 1) (nR l) := Bd.int (nn_size bl) (by omega)
  have bx : Bd m C.x := bm.x
  have by_ : Bd m C.y := bm.y
  have n0 := nR_ne nl
  have ea : PyData.tuple [.int l.a, .int 1] = fr (l.a : Rat) := (fr_int l.a).symm
  have eb : PyData.tuple [.int l.b, .int 1] = fr (l.b : Rat) := (fr_int l.b).symm
  have ec : PyData.tuple [.int l.c, .int 1] = fr (l.c : Rat) := (fr_int l.c).symm
  have en : PyData.tuple [.int (l.a * l.a + l.b * l.b), .int 1] = fr (nR l) := (fr_int _).symm
  have ez : PyData.tuple [.int 0, .int 1] = fr 0 := fr_zero.symm
  -- a, b
  unfold t_line_cuts
  refine seqSetV (d := fr (l.a : Rat)) (fun P h => ?_) ?_
  · rw [← ea] at h; exact h
  walk_at "nrm"
  refine seqSetV (d := fr (l.b : Rat)) (fun P h => ?_) ?_
  · rw [← eb] at h; exact h
  walk_at "nrm"
  -- e
  refine seqSetV (d := fr (eR l C.c)) (fun P h => ?_) ?_
  · unfold eR Ci.c at h
    refine ⟨_, _, rfl, ⟨_, _, ba, bx, by omega⟩, ?_⟩
    refine ⟨_, _, rfl, ⟨_, _, bb, by_, by omega⟩, ?_⟩
    refine ⟨_, _, rfl, ⟨_, _, ba.mul bx, bb.mul by_, by omega⟩, ?_⟩
    exact ⟨(l.c : Rat), _, by rw [ec], ⟨_, _, bc, (ba.mul bx).add (bb.mul by_), by omega⟩, h⟩
  walk_at "nrm"
  -- n
  refine seqSetV (d := fr (nR l)) (fun P h => ?_) ?_
  · rw [← en] at h; exact ⟨bl.a.mulW bl.a (by omega), bl.b.mulW bl.b (by omega), h⟩
  walk_at "nrm"
  -- d
  refine seqSetV (d := fr (dR l C)) (fun P h => ?_) ?_
  · unfold dR at h
    refine ⟨_, _, rfl, ⟨_, _, bs, bn, by omega⟩, ?_⟩
    refine ⟨_, _, rfl, ⟨_, _, bk, bk, by omega⟩, ?_⟩
    exact ⟨_, _, rfl, ⟨_, _, bs.mul bn, bk.mul bk, by omega⟩, h⟩
  walk_at "nrm"
  have bd : Bd (2 * ρ) (dR l C) := by
    unfold dR
    exact ((bs.mul bn).sub (bk.mul bk)).mono (by omega)
  have less0 : ∀ P : Bool → Prop, P (decide (dR l C < 0)) → dVal (dCall 2 c_less (dCons (dVar 6) (dCons (dTup (dCons (dC (.int 0)) (dCons (dC (.int 1)) dNil))) dNil))) [some (ln l), some (ci C), some (fr (l.a : Rat)), some (fr (l.b : Rat)), some (fr (eR l C.c)), some (fr (nR l)), some (fr (dR l C)), none, none, none, none, none, none, none] P :=
    fun P h => ⟨dR l C, 0, by rw [← ez], ⟨_, 1, bd, by exact Bd.int (i := 0) Bz.zero (by decide), by omega⟩, h⟩
  by_cases hd : dR l C < 0
  · refine seqIfT (fun P h => less0 P (by rw [decide_eq_true hd]; exact h)) ?_
    exact h1 hd
  refine seqIfF (fun P h => less0 P (by rw [decide_eq_false hd]; exact h)) (seqSkip ?_)
  have hd0 : 0 ≤ dR l C := Rat.not_lt.mp hd
  -- r
  refine ⟨dR l C, rfl, bd.mono (by omega), fun r r0 er => ?_, fun hn => ?_⟩
  rotate_left
  · walk_at "nrm"
    refine seqIfT (fun P h => h) ?_
    exact h2 hd0 hn
  walk_at "nrm"
  have h3 := h3 r r0 er
  have br : Bd ρ r := root_size er bd
  refine seqIfF (fun P h => h) (seqSkip ?_)
  have b1 : Bd (m + 3 * L + k + 2) (mX l C) := (bx.add ((ba.mul bk).div bn n0)).mono (by omega)
  have b2 : Bd (m + 3 * L + k + 2) (mY l C) := (by_.add ((bb.mul bk).div bn n0)).mono (by omega)
  have b3 : Bd (ρ + 3 * L + 1) (rX l r) := ((br.mul bb).div bn n0).mono (by omega)
  have b4 : Bd (ρ + 3 * L + 1) (rY l r) := ((br.mul ba).div bn n0).mono (by omega)
  -- x, y, right, down
  refine seqSetV (d := fr (mX l C)) (fun P h => ?_) ?_
  · unfold mX at h
    refine ⟨_, _, rfl, ⟨_, _, ba, bk, by omega⟩, ?_⟩
    refine ⟨_, _, rfl, n0, ⟨_, _, ba.mul bk, bn, by omega⟩, ?_⟩
    exact ⟨_, _, rfl, ⟨_, _, bx, (ba.mul bk).div bn n0, by omega⟩, h⟩
  walk_at "nrm"
  refine seqSetV (d := fr (mY l C)) (fun P h => ?_) ?_
  · unfold mY at h
    refine ⟨_, _, rfl, ⟨_, _, bb, bk, by omega⟩, ?_⟩
    refine ⟨_, _, rfl, n0, ⟨_, _, bb.mul bk, bn, by omega⟩, ?_⟩
    exact ⟨_, _, rfl, ⟨_, _, by_, (bb.mul bk).div bn n0, by omega⟩, h⟩
  walk_at "nrm"
  refine seqSetV (d := fr (rX l r)) (fun P h => ?_) ?_
  · unfold rX at h
    refine ⟨_, _, rfl, ⟨_, _, br, bb, by omega⟩, ?_⟩
    exact ⟨_, _, rfl, n0, ⟨_, _, br.mul bb, bn, by omega⟩, h⟩
  walk_at "nrm"
  refine seqSetV (d := fr (rY l r)) (fun P h => ?_) ?_
  · unfold rY at h
    refine ⟨_, _, rfl, ⟨_, _, br, ba, by omega⟩, ?_⟩
    exact ⟨_, _, rfl, n0, ⟨_, _, br.mul ba, bn, by omega⟩, h⟩
  walk_at "nrm"
  refine seqSetV (d := pl (cutOne l C r)) (fun P h => ?_) ?_
  · refine ⟨_, _, rfl, ⟨_, _, b1, b3, by omega⟩, ?_⟩
    exact ⟨_, _, rfl, ⟨_, _, b2, b4, by omega⟩, h⟩
  walk_at "nrm"
  refine seqSetV (d := pl (cutTwo l C r)) (fun P h => ?_) ?_
  · refine ⟨_, _, rfl, ⟨_, _, b1, b3, by omega⟩, ?_⟩
    exact ⟨_, _, rfl, ⟨_, _, b2, b4, by omega⟩, h⟩
  walk_at "nrm"
  have hah : ∀ P : Bool → Prop, P (aheadB (cutTwo l C r) (cutOne l C r)) → ∀ x0 x1 x2 x3 x4 x5 x6 x7 x8 x9 x10 x11, dVal (dCall 2 c_ahead (dCons (dVar 13) (dCons (dVar 12) dNil))) [x0, x1, x2, x3, x4, x5, x6, x7, x8, x9, x10, x11, some (pl (cutOne l C r)), some (pl (cutTwo l C r))] P :=
    fun P h x0 x1 x2 x3 x4 x5 x6 x7 x8 x9 x10 x11 => ⟨cutTwo l C r, cutOne l C r, rfl, ⟨_, _, ⟨b1.sub b3, b2.add b4⟩, ⟨b1.add b3, b2.sub b4⟩, by omega⟩, h⟩
  unfold cutFst cutSnd at h3
  cases ha : aheadB (cutTwo l C r) (cutOne l C r) with
  | true =>
    rw [ha, if_pos rfl, if_pos rfl] at h3
    refine seqIfT (fun P h => hah P (by rw [ha]; exact h) _ _ _ _ _ _ _ _ _ _ _ _) ?_
    exact h3
  | false =>
    rw [ha, if_neg (by decide), if_neg (by decide)] at h3
    refine seqIfF (fun P h => hah P (by rw [ha]; exact h) _ _ _ _ _ _ _ _ _ _ _ _) (seqSkip ?_)
    exact h3
end Mb
set_option Elab.async false
set_option linter.all false
set_option maxRecDepth 100000
set_option maxHeartbeats 1000000
namespace Mb
open PySem PySem.Spec PyProof.Rows L2
local macro_rules | `(tactic| walk_at "nrm") => `(tactic| try dsimp only [startD, setAll, gSub, gAdd, gNeg, List.map, List.length, List.replicate, HAppend.hAppend, Append.append, List.append, List.set, Nat.reduceAdd, Nat.reduceSub])
/-! ### the line between two circles -/
def btA (A B : Ci) : Rat := 2 * (B.x - A.x)
def btB (A B : Ci) : Rat := 2 * (B.y - A.y)
def far (A : Ci) : Rat := A.s - (A.x * A.x + A.y * A.y)
def btC (A B : Ci) : Rat := far A - far B
def betw (A B : Ci) : Ln := oneForm ((btA A B).num * ((btB A B).den : Int) * ((btC A B).den : Int)) ((btB A B).num * ((btA A B).den : Int) * ((btC A B).den : Int)) ((btC A B).num * ((btA A B).den : Int) * ((btB A B).den : Int))
theorem num0 {q : Rat} (h : q.num = 0) : q = 0 := by
  rw [nd q, h, Rat.div_def, Rat.intCast_zero, Rat.zero_mul]
theorem two_mul0 {q : Rat} (h : 2 * q = 0) : q = 0 := by
  rcases Rat.mul_eq_zero.mp h with z | z
  · exact absurd z (by decide)
  · exact z
theorem sub0 {p q : Rat} (h : p - q = 0) : p = q := by grind
theorem betw_ne {A B : Ci} (h : A.c ≠ B.c) : ¬ ((btA A B).num * ((btB A B).den : Int) * ((btC A B).den : Int) = 0 ∧ (btB A B).num * ((btA A B).den : Int) * ((btC A B).den : Int) = 0) := by
  rintro ⟨h1, h2⟩
  apply h
  have k : ∀ x y z : Rat, x.num * (y.den : Int) * (z.den : Int) = 0 → x = 0 := fun x y z e => by
    rcases Int.mul_eq_zero.mp e with q | q
    · rcases Int.mul_eq_zero.mp q with w | w
      · exact num0 w
      · exact absurd w (den_ne y)
    · exact absurd q (den_ne z)
  have e1 := sub0 (two_mul0 (k _ _ _ h1))
  have e2 := sub0 (two_mul0 (k _ _ _ h2))
  exact Prod.ext e1.symm e2.symm
theorem betw_nm {A B : Ci} (h : A.c ≠ B.c) : Nm (betw A B) := let ⟨_, _, _, _, _, _, h⟩ := oneForm_spec (c := (btC A B).num * ((btA A B).den : Int) * ((btB A B).den : Int)) (betw_ne h); h
structure SzB (A B : Ci) : Prop where
  ex : ∃ m n c d, BP m A.c ∧ BP n B.c ∧ Bd c A.s ∧ Bd d B.s ∧ 8 * m + 8 * n + c + d + 20 < 13300
def c_between_line : Ct := fun ds Q => ∃ A B : Ci, ds = [ci A, ci B] ∧ A.c ≠ B.c ∧ SzB A B ∧ Q (ln (betw A B))
theorem rd_between_line (ds : List PyData) (Q : PyData → Prop) (hl : ds.length = 2) (h : c_between_line ds Q) : t_between_line c_one_form c_minus c_plus c_times { nx := fun _ => Q .none, rt := Q } (startD 9 ds) := by
  obtain ⟨A, B, rfl, hne, ⟨m, n, c, d, bA, bB, sA, sB, g⟩, hQ⟩ := h
  have ax : Bd m A.x := bA.x
  have ay : Bd m A.y := bA.y
  have bx : Bd n B.x := bB.x
  have by_ : Bd n B.y := bB.y
  unfold t_between_line
  have zA : Bd (m + n + 3) (btA A B) := (Bd.two.mul (bx.sub ax)).mono (by omega)
  have zB : Bd (m + n + 3) (btB A B) := (Bd.two.mul (by_.sub ay)).mono (by omega)
  have fA : Bd (c + 4 * m + 2) (far A) := (sA.sub ((ax.mul ax).add (ay.mul ay))).mono (by omega)
  have fB : Bd (d + 4 * n + 2) (far B) := (sB.sub ((bx.mul bx).add (by_.mul by_))).mono (by omega)
  have zC : Bd (c + d + 4 * m + 4 * n + 5) (btC A B) := (fA.sub fB).mono (by omega)
  refine seqSetV (d := fr (btA A B)) (fun P h => ?_) ?_
  · unfold btA at h
    refine ⟨_, _, rfl, ⟨_, _, bx, ax, by omega⟩, ?_⟩
    exact ⟨2, _, by rw [fr_two], ⟨_, _, Bd.two, bx.sub ax, by omega⟩, h⟩
  walk_at "nrm"
  refine seqSetV (d := fr (btB A B)) (fun P h => ?_) ?_
  · unfold btB at h
    refine ⟨_, _, rfl, ⟨_, _, by_, ay, by omega⟩, ?_⟩
    exact ⟨2, _, by rw [fr_two], ⟨_, _, Bd.two, by_.sub ay, by omega⟩, h⟩
  walk_at "nrm"
  refine seqSetV (d := fr (far A)) (fun P h => ?_) ?_
  · unfold far at h
    refine ⟨_, _, rfl, ⟨_, _, ax, ax, by omega⟩, ?_⟩
    refine ⟨_, _, rfl, ⟨_, _, ay, ay, by omega⟩, ?_⟩
    refine ⟨_, _, rfl, ⟨_, _, ax.mul ax, ay.mul ay, by omega⟩, ?_⟩
    exact ⟨_, _, rfl, ⟨_, _, sA, (ax.mul ax).add (ay.mul ay), by omega⟩, h⟩
  walk_at "nrm"
  refine seqSetV (d := fr (far B)) (fun P h => ?_) ?_
  · unfold far at h
    refine ⟨_, _, rfl, ⟨_, _, bx, bx, by omega⟩, ?_⟩
    refine ⟨_, _, rfl, ⟨_, _, by_, by_, by omega⟩, ?_⟩
    refine ⟨_, _, rfl, ⟨_, _, bx.mul bx, by_.mul by_, by omega⟩, ?_⟩
    exact ⟨_, _, rfl, ⟨_, _, sB, (bx.mul bx).add (by_.mul by_), by omega⟩, h⟩
  walk_at "nrm"
  refine seqSetV (d := fr (btC A B)) (fun P h => ?_) ?_
  · unfold btC at h
    exact ⟨_, _, rfl, ⟨_, _, fA, fB, by omega⟩, h⟩
  walk_at "nrm"
  refine ⟨zA.num.mulW zB.den (by omega), (zA.num.mul zB.den).mulW zC.den (by omega), ?_⟩
  walk_at "nrm"
  refine ⟨zB.num.mulW zA.den (by omega), (zB.num.mul zA.den).mulW zC.den (by omega), ?_⟩
  walk_at "nrm"
  refine ⟨zC.num.mulW zA.den (by omega), (zC.num.mul zA.den).mulW zB.den (by omega), ?_⟩
  exact ⟨_, _, _, rfl, betw_ne hne, ⟨((zA.num.mul zB.den).mul zC.den).mono (by omega), ((zB.num.mul zA.den).mul zC.den).mono (by omega), ((zC.num.mul zA.den).mul zB.den).mono (by omega)⟩, hQ⟩
def c_ring_cuts : Ct := fun ds Q => ∃ A B : Ci, ds = [ci A, ci B] ∧ (A.c = B.c → Q (.tuple [.str "centre", .list []])) ∧ (A.c ≠ B.c → SzB A B ∧ SzCut (betw A B) A ∧ CutQ (betw A B) A Q)
theorem rd_ring_cuts (ds : List PyData) (Q : PyData → Prop) (hl : ds.length = 2) (h : c_ring_cuts ds Q) : t_ring_cuts c_line_cuts c_between_line { nx := fun _ => Q .none, rt := Q } (startD 2 ds) := by
  obtain ⟨A, B, rfl, h1, h2⟩ := h
  have go : A.c ≠ B.c → dRet (dCall 2 c_line_cuts (dCons (dCall 2 c_between_line (dCons (dVar 0) (dCons (dVar 1) dNil))) (dCons (dVar 0) dNil))) { nx := fun _ => Q .none, rt := Q } [some (ci A), some (ci B)] := fun hne => by
    obtain ⟨s1, s2, q⟩ := h2 hne
    refine ⟨A, B, rfl, hne, s1, ?_⟩
    exact ⟨_, A, rfl, betw_nm hne, s2, q⟩
  unfold t_ring_cuts
  walk_at "nrm"
  refine ⟨⟨rfl, rfl⟩, ?_⟩
  rw [eqv_fr]
  show if decide (A.x = B.x) = true then _ else _
  by_cases e : A.x = B.x
  · rw [if_pos (decide_eq_true e)]
    refine ⟨⟨rfl, rfl⟩, ?_⟩
    rw [eqv_fr]
    show if decide (A.y = B.y) = true then _ else _
    by_cases e2 : A.y = B.y
    · rw [if_pos (decide_eq_true e2)]
      exact h1 (Prod.ext e e2)
    · rw [if_neg (by simpa using e2)]
      exact go fun z => e2 (congrArg Prod.snd z)
  · rw [if_neg (by simpa using e)]
    exact go fun z => e (congrArg Prod.fst z)
/-! ### judging -/
def crossR (p q r : Pl) : Rat := (p.1 - r.1) * (q.2 - r.2) - (p.2 - r.2) * (q.1 - r.1)
def c_cross : Ct := fun ds Q => ∃ p q r : Pl, ds = [pl p, pl q, pl r] ∧ (∃ i j k, BP i p ∧ BP j q ∧ BP k r ∧ 2 * i + 2 * j + 4 * k + 4 < 13300) ∧ Q (fr (crossR p q r))
theorem rd_cross (ds : List PyData) (Q : PyData → Prop) (hl : ds.length = 3) (h : c_cross ds Q) : t_cross c_minus c_times { nx := fun _ => Q .none, rt := Q } (startD 5 ds) := by
  obtain ⟨p, q, r, rfl, ⟨i, j, k, hp, hq, hr, l⟩, hQ⟩ := h
  have b1 := hp.x.sub hr.x
  have b2 := hq.y.sub hr.y
  have b3 := hp.y.sub hr.y
  have b4 := hq.x.sub hr.x
  refine ⟨_, _, rfl, ⟨_, _, hp.x, hr.x, by omega⟩, ?_⟩
  refine ⟨_, _, rfl, ⟨_, _, hq.y, hr.y, by omega⟩, ?_⟩
  refine ⟨_, _, rfl, ⟨_, _, b1, b2, by omega⟩, ?_⟩
  walk_at "nrm"
  refine ⟨_, _, rfl, ⟨_, _, hp.y, hr.y, by omega⟩, ?_⟩
  refine ⟨_, _, rfl, ⟨_, _, hq.x, hr.x, by omega⟩, ?_⟩
  refine ⟨_, _, rfl, ⟨_, _, b3, b4, by omega⟩, ?_⟩
  walk_at "nrm"
  exact ⟨_, _, rfl, ⟨_, _, b1.mul b2, b3.mul b4, by omega⟩, hQ⟩
theorem cEq_zero {p : Rat} {Q : Bool → Prop} (h : Q (decide (p = 0))) : cEq (fr p) (.tuple [.int 0, .int 1]) Q := by
  rw [← fr_zero]; exact cEq_fr h
def c_in_line : Ct := fun ds Q => ∃ p q r : Pl, ds = [pl p, pl q, pl r] ∧ (∃ i j k, BP i p ∧ BP j q ∧ BP k r ∧ 2 * i + 2 * j + 4 * k + 4 < 13300) ∧ Q (.bool (decide (crossR p q r = 0)))
theorem rd_in_line (ds : List PyData) (Q : PyData → Prop) (hl : ds.length = 3) (h : c_in_line ds Q) : t_in_line c_cross { nx := fun _ => Q .none, rt := Q } (startD 3 ds) := by
  obtain ⟨p, q, r, rfl, hs, hQ⟩ := h
  refine ⟨p, q, r, rfl, hs, ?_⟩
  show cEq (fr (crossR p q r)) (.tuple [.int 0, .int 1]) fun b => Q (.bool b)
  exact cEq_zero hQ
def c_side_by_side : Ct := fun ds Q => ∃ l m : Ln, ds = [ln l, ln m] ∧ (∃ i j, BL i l ∧ BL j m ∧ i + j < 13300) ∧ Q (.bool (decide (l.a * m.b = l.b * m.a)))
theorem rd_side_by_side (ds : List PyData) (Q : PyData → Prop) (hl : ds.length = 2) (h : c_side_by_side ds Q) : t_side_by_side { nx := fun _ => Q .none, rt := Q } (startD 2 ds) := by
  obtain ⟨l, m, rfl, ⟨i, j, bl, bm, g⟩, hQ⟩ := h
  exact ⟨bl.a.mulW bm.b (by omega), bl.b.mulW bm.a (by omega), hQ⟩
def c_square_on : Ct := fun ds Q => ∃ l m : Ln, ds = [ln l, ln m] ∧ (∃ i j, BL i l ∧ BL j m ∧ i + j < 13300) ∧ Q (.bool (decide (l.a * m.a + l.b * m.b = 0)))
theorem rd_square_on (ds : List PyData) (Q : PyData → Prop) (hl : ds.length = 2) (h : c_square_on ds Q) : t_square_on { nx := fun _ => Q .none, rt := Q } (startD 2 ds) := by
  obtain ⟨l, m, rfl, ⟨i, j, bl, bm, g⟩, hQ⟩ := h
  exact ⟨bl.a.mulW bm.a (by omega), bl.b.mulW bm.b (by omega), hQ⟩
def rnd1 (p q r s : Pl) : Rat := sqb p s * crossR q r s
def roundR (p q r s : Pl) : Rat := rnd1 p q r s + (rnd1 q r p s + rnd1 r p q s)
/-- the sizes that all_round asks -/
structure SzR (p q r s : Pl) : Prop where
  ex : ∃ i j k l a b c, BP i p ∧ BP j q ∧ BP k r ∧ BP l s ∧ Bd a (rnd1 p q r s) ∧ Bd b (rnd1 q r p s) ∧ Bd c (rnd1 r p q s) ∧ a + b + c + 4 < 13300 ∧ i + j + k + l < 1400
  o1 : ∃ a b, Bd a (sqb p s) ∧ Bd b (crossR q r s) ∧ a + b < 13400
  o2 : ∃ a b, Bd a (sqb q s) ∧ Bd b (crossR r p s) ∧ a + b < 13400
  o3 : ∃ a b, Bd a (sqb r s) ∧ Bd b (crossR p q s) ∧ a + b < 13400
def c_all_round : Ct := fun ds Q => ∃ p q r s : Pl, ds = [pl p, pl q, pl r, pl s] ∧ SzR p q r s ∧ Q (.bool (decide (roundR p q r s = 0)))
theorem rd_all_round (ds : List PyData) (Q : PyData → Prop) (hl : ds.length = 4) (h : c_all_round ds Q) : t_all_round c_plus c_times c_cross c_square_between { nx := fun _ => Q .none, rt := Q } (startD 7 ds) := by
  obtain ⟨p, q, r, s, rfl, ⟨⟨i, j, k, l, a, b, c, bp, bq, br, bs, ba, bb, bc, g1, g2⟩, o1, o2, o3⟩, hQ⟩ := h
  unfold t_all_round
  refine seqSetV (d := fr (rnd1 p q r s)) (fun P h => ?_) ?_
  · refine ⟨p, s, rfl, ⟨_, _, bp, bs, by omega⟩, ?_⟩
    refine ⟨q, r, s, rfl, ⟨_, _, _, bq, br, bs, by omega⟩, ?_⟩
    exact ⟨_, _, rfl, o1, h⟩
  walk_at "nrm"
  refine seqSetV (d := fr (rnd1 q r p s)) (fun P h => ?_) ?_
  · refine ⟨q, s, rfl, ⟨_, _, bq, bs, by omega⟩, ?_⟩
    refine ⟨r, p, s, rfl, ⟨_, _, _, br, bp, bs, by omega⟩, ?_⟩
    exact ⟨_, _, rfl, o2, h⟩
  walk_at "nrm"
  refine seqSetV (d := fr (rnd1 r p q s)) (fun P h => ?_) ?_
  · refine ⟨r, s, rfl, ⟨_, _, br, bs, by omega⟩, ?_⟩
    refine ⟨p, q, s, rfl, ⟨_, _, _, bp, bq, bs, by omega⟩, ?_⟩
    exact ⟨_, _, rfl, o3, h⟩
  walk_at "nrm"
  refine ⟨_, _, rfl, ⟨_, _, bb, bc, by omega⟩, ?_⟩
  refine ⟨_, _, rfl, ⟨_, _, ba, bb.add bc, by omega⟩, ?_⟩
  show cEq (fr (roundR p q r s)) (.tuple [.int 0, .int 1]) fun b => Q (.bool b)
  exact cEq_zero hQ
def c_as_far : Ct := fun ds Q => ∃ p q r s : Pl, ds = [pl p, pl q, pl r, pl s] ∧ (∃ i j k l, BP i p ∧ BP j q ∧ BP k r ∧ BP l s ∧ i + j < 3300 ∧ k + l < 3300) ∧ Q (.bool (decide (sqb p q = sqb r s)))
theorem rd_as_far (ds : List PyData) (Q : PyData → Prop) (hl : ds.length = 4) (h : c_as_far ds Q) : t_as_far c_square_between { nx := fun _ => Q .none, rt := Q } (startD 4 ds) := by
  obtain ⟨p, q, r, s, rfl, ⟨i, j, k, l, bp, bq, br, bs, g1, g2⟩, hQ⟩ := h
  refine ⟨p, q, rfl, ⟨_, _, bp, bq, by omega⟩, ?_⟩
  refine ⟨r, s, rfl, ⟨_, _, br, bs, by omega⟩, ?_⟩
  exact cEq_fr hQ
end Mb
set_option Elab.async false
set_option linter.all false
set_option maxRecDepth 100000
set_option maxHeartbeats 1000000
namespace Mb
open PySem PySem.Spec PyProof.Rows L2
local macro_rules | `(tactic| walk_at "nrm") => `(tactic| try dsimp only [startD, setAll, gSub, gAdd, gNeg, List.map, List.length, List.replicate, HAppend.hAppend, Append.append, List.append, List.set, Nat.reduceAdd, Nat.reduceSub])
/-! ### what a thing is made of -/
inductive Mk where
  | free (x y : Rat)
  | middle (p q : Str)
  | share (p q : Str) (t : Rat)
  | next (p q : Str)
  | turn (p q : Str)
  | foot (p l : Str)
  | mirror (p l : Str)
  | meet (l m : Str)
  | cut (u c : Str) (k : Int)
  | line (p q : Str)
  | along (p l : Str)
  | upright (p l : Str)
  | circle (p q : Str)
  | inline (p q r : Str)
  | round (p q r s : Str)
  | alike (p q r s : Str)
  | beside (l m : Str)
  | square (l m : Str)
def Mk.word : Mk → Str
  | .free .. => "free" | .middle .. => "middle" | .share .. => "share" | .next .. => "next" | .turn .. => "turn" | .foot .. => "foot" | .mirror .. => "mirror" | .meet .. => "meet" | .cut .. => "cut" | .line .. => "line" | .along .. => "along" | .upright .. => "upright" | .circle .. => "circle" | .inline .. => "inline" | .round .. => "round" | .alike .. => "alike" | .beside .. => "beside" | .square .. => "square"
def Mk.gr : Mk → List Str
  | .free .. => []
  | .middle p q | .share p q _ | .next p q | .turn p q | .foot p q | .mirror p q | .meet p q | .cut p q _ | .line p q | .along p q | .upright p q | .circle p q | .beside p q | .square p q => [p, q]
  | .inline p q r => [p, q, r]
  | .round p q r s | .alike p q r s => [p, q, r, s]
def Mk.xs : Mk → List PyData
  | .free x y => [fr x, fr y]
  | .share _ _ t => [fr t]
  | .cut _ _ k => [.int k]
  | _ => []
def sds (l : List Str) : List PyData := l.map PyData.str
def mkD (m : Mk) : PyData := .tuple (.str m.word :: (sds m.gr ++ m.xs))
def Mk.sort : Mk → Str
  | .line .. | .along .. | .upright .. => "line"
  | .circle .. => "circle"
  | .inline .. | .round .. | .alike .. | .beside .. | .square .. => "claim"
  | _ => "point"
def Mk.asked : Mk → List Str
  | .free .. => []
  | .middle .. | .share .. | .next .. | .turn .. | .line .. | .circle .. => ["point", "point"]
  | .foot .. | .mirror .. | .along .. | .upright .. => ["point", "line"]
  | .meet .. | .beside .. | .square .. => ["line", "line"]
  | .cut .. => ["curve", "circle"]
  | .inline .. => ["point", "point", "point"]
  | .round .. | .alike .. => ["point", "point", "point", "point"]
theorem tab_sorts (m : Mk) : f_SORTS m.word = some (.str m.sort) := by cases m <;> rfl
theorem tab_asked (m : Mk) : f_ASKED m.word = some (.tuple (sds m.asked)) := by cases m <;> rfl
def c_sort_of : Ct := fun ds Q => ∃ m, ds = [mkD m] ∧ Q (.str m.sort)
def c_grounds : Ct := fun ds Q => ∃ m, ds = [mkD m] ∧ Q (.list (sds m.gr))
def c_asked_sorts : Ct := fun ds Q => ∃ m, ds = [mkD m] ∧ Q (.list (sds m.asked))
theorem rd_sort_of (ds : List PyData) (Q : PyData → Prop) (hl : ds.length = 1) (h : c_sort_of ds Q) : t_sort_of { nx := fun _ => Q .none, rt := Q } (startD 1 ds) := by
  obtain ⟨m, rfl, hQ⟩ := h
  cases m <;> exact hQ
theorem rd_asked_sorts (ds : List PyData) (Q : PyData → Prop) (hl : ds.length = 1) (h : c_asked_sorts ds Q) : t_asked_sorts { nx := fun _ => Q .none, rt := Q } (startD 1 ds) := by
  obtain ⟨m, rfl, hQ⟩ := h
  cases m <;> exact hQ
/-- a tuple without its head is not the whole -/
theorem nw (n : Nat) (o : Option Int) : ¬ (HT.sIx (n + 1) 0 (some 1) = 0 ∧ HT.sIx (n + 1) (n + 1) o = n + 1) := fun h => by
  have e := HT.sIx_nat (n + 1) 0 1
  have h1 := h.1
  have e2 : HT.sIx (n + 1) 0 (some 1) = min 1 (n + 1) := e
  omega
theorem rd_grounds (ds : List PyData) (Q : PyData → Prop) (hl : ds.length = 1) (h : c_grounds ds Q) : t_grounds { nx := fun _ => Q .none, rt := Q } (startD 1 ds) := by
  obtain ⟨m, rfl, hQ⟩ := h
  cases m <;> exact ⟨nw _ _, hQ⟩
theorem rd_law_grounds (ds : List PyData) (Q : PyData → Prop) (hl : ds.length = 1) (h : c_grounds ds Q) : t_law_grounds { nx := fun _ => Q .none, rt := Q } (startD 1 ds) := by
  obtain ⟨m, rfl, hQ⟩ := h
  cases m <;> first
    | exact hQ
    | exact ⟨nw _ _, hQ⟩
theorem rd_law_sort (ds : List PyData) (Q : PyData → Prop) (hl : ds.length = 1) (h : c_sort_of ds Q) : t_law_sort { nx := fun _ => Q .none, rt := Q } (startD 1 ds) := by
  obtain ⟨m, rfl, hQ⟩ := h
  cases m <;> (refine ⟨⟨rfl, rfl⟩, ?_⟩; first
    | exact hQ
    | exact ⟨⟨rfl, rfl⟩, hQ⟩)
/-! ### what a thing tells -/
inductive Tl where
  | pt (p : Pl)
  | line (l : Ln)
  | circle (C : Ci)
  | kept
  | broken
  | gone (n w : Str)
def Tl.word : Tl → Str
  | .pt _ => "at" | .line _ => "line" | .circle _ => "circle" | .kept => "kept" | .broken => "broken" | .gone _ _ => "gone"
def Tl.rest : Tl → List PyData
  | .pt p => [fr p.1, fr p.2]
  | .line l => [.int l.a, .int l.b, .int l.c]
  | .circle C => [fr C.x, fr C.y, fr C.s]
  | .gone n w => [.str n, .str w]
  | _ => []
def tlD (t : Tl) : PyData := .tuple (.str t.word :: t.rest)
/-! ### the dicts of a row -/
def look {α : Type} : List (Str × α) → Str → Option α
  | [], _ => none
  | (x, a) :: r, k => if x = k then some a else look r k
def kvD {α : Type} (f : α → PyData) (l : List (Str × α)) : PyData := .dict (l.map fun x => (.str x.1, f x.2))
theorem look_kv {α : Type} (f : α → PyData) (k : Str) : ∀ l : List (Str × α), dGetK (l.map fun x => (.str x.1, f x.2)) k = (look l k).map f
  | [] => rfl
  | (x, a) :: r => by
    show (if x = k then some (f a) else dGetK (r.map fun x => (.str x.1, f x.2)) k) = (if x = k then some a else look r k).map f
    rw [look_kv f k r]
    split <;> rfl
theorem gDGet_kv {α : Type} {f : α → PyData} {l : List (Str × α)} {k : Str} {a : α} {Q : PyData → Prop} (h : look l k = some a) (q : Q (f a)) : gDGet (kvD f l) (.str k) Q := by
  show optK (dGetK (l.map fun x => (.str x.1, f x.2)) k) Q
  rw [look_kv, h]
  exact q
theorem gDIn_kv {α : Type} {f : α → PyData} {l : List (Str × α)} {k : Str} {Q : Bool → Prop} (q : Q (look l k).isSome) : gDIn (.str k) (kvD f l) Q := by
  show Q (dGetK (l.map fun x => (.str x.1, f x.2)) k).isSome
  rw [look_kv, Option.isSome_map]
  exact q
theorem gDNotIn_kv {α : Type} {f : α → PyData} {l : List (Str × α)} {k : Str} {Q : Bool → Prop} (q : Q (!(look l k).isSome)) : gDNotIn (.str k) (kvD f l) Q := by
  show Q (!(dGetK (l.map fun x => (.str x.1, f x.2)) k).isSome)
  rw [look_kv, Option.isSome_map]
  exact q
/-! ### names -/
def nm (k : Nat) : Str := (["q0", "d1", "z2", "a3", "m4", "x5", "k6", "b7", "w8", "c9", "y10", "p11", "l12", "h13", "q14", "d15"] : List String).getD k ""
def c_good : Ct := fun ds Q => ∃ k, k < 16 ∧ ds = [.str (nm k)] ∧ Q (.bool true)
theorem nm_inj : ∀ i, i < 16 → ∀ j, j < 16 → nm i = nm j → i = j := by decide +kernel
/-! ### admitting -/
def suitsB (s a : Str) : Bool := decide (s = a) || (decide (a = "curve") && (decide ("line" = s) || decide ("circle" = s)))
def c_suits : Ct := fun ds Q => ∃ s a, ds = [.str s, .str a] ∧ Q (.bool (suitsB s a))
theorem rd_suits (ds : List PyData) (Q : PyData → Prop) (hl : ds.length = 2) (h : c_suits ds Q) : t_suits { nx := fun _ => Q .none, rt := Q } (startD 2 ds) := by
  obtain ⟨s, a, rfl, hQ⟩ := h
  unfold suitsB at hQ
  show if decide (s = a) = true then Q (.bool true) else _
  by_cases h1 : s = a
  · rw [if_pos (decide_eq_true h1)]
    rw [decide_eq_true h1] at hQ
    exact hQ
  · rw [if_neg (by simpa using h1)]
    rw [decide_eq_false h1] at hQ
    show if decide (a = "curve") = true then _ else Q (.bool false)
    by_cases h2 : a = "curve"
    · rw [if_pos (decide_eq_true h2)]
      rw [decide_eq_true h2] at hQ
      refine ⟨⟨rfl, rfl⟩, ?_⟩
      have e : inD (.str s) [.str "line", .str "circle"] = (decide (("line" : Str) = s) || decide (("circle" : Str) = s)) := by
        simp [inD, PyData.eqv, Bool.beq_eq_decide_eq]
      show Q (.bool (inD (.str s) [.str "line", .str "circle"]))
      rw [e]
      simpa using hQ
    · rw [if_neg (by simpa using h2)]
      rw [decide_eq_false h2] at hQ
      exact hQ
def c_within : Ct := fun ds Q => ∃ (q : Rat) (n : Int), ds = [fr q, .int n] ∧ (q.num.natAbs : Int) < n ∧ (q.den : Int) < n ∧ Q (.bool true)
theorem rd_within (ds : List PyData) (Q : PyData → Prop) (hl : ds.length = 2) (h : c_within ds Q) : t_within { nx := fun _ => Q .none, rt := Q } (startD 2 ds) := by
  obtain ⟨q, n, rfl, h1, h2, hQ⟩ := h
  show if decide ((if q.num < 0 then -q.num else q.num) < n) = true then Q (.bool (decide ((q.den : Int) < n))) else _
  rw [abs_if, if_pos (decide_eq_true h1), decide_eq_true h2]
  exact hQ
structure Wn (n : Nat) (q : Rat) : Prop where
  num : q.num.natAbs < n
  den : q.den < n
def NotFar : Mk → Prop
  | .free x y => Wn 1000000000 x ∧ Wn 1000000000 y
  | .share _ _ t => Wn 1000 t
  | _ => True
def c_too_far : Ct := fun ds Q => ∃ m, ds = [mkD m] ∧ NotFar m ∧ Q (.bool false)
theorem rd_too_far (ds : List PyData) (Q : PyData → Prop) (hl : ds.length = 1) (h : c_too_far ds Q) : t_too_far c_within { nx := fun _ => Q .none, rt := Q } (startD 1 ds) := by
  obtain ⟨m, rfl, hf, hQ⟩ := h
  cases m with
  | free x y => exact ⟨x, _, rfl, by have := hf.1.num; omega, by have := hf.1.den; omega, y, _, rfl, by have := hf.2.num; omega, by have := hf.2.den; omega, hQ⟩
  | share p q t => exact ⟨t, _, rfl, by have := hf.num; omega, by have := hf.den; omega, hQ⟩
  | _ => exact hQ
end Mb
set_option Elab.async false
set_option linter.all false
set_option maxRecDepth 100000
set_option maxHeartbeats 1000000
namespace Mb
open PySem PySem.Spec PyProof.Rows L2
local macro_rules | `(tactic| walk_at "nrm") => `(tactic| try dsimp only [startD, setAll, gSub, gAdd, gNeg, List.map, List.length, List.replicate, HAppend.hAppend, Append.append, List.append, List.set, Nat.reduceAdd, Nat.reduceSub])
theorem forR_all {i : Nat} {tb : TDS} {E : DE} (n : Dn → Prop) (he : ∀ δ, n δ → E.nx δ) : ∀ (ds : List PyData), (∀ d ∈ ds, ∀ δ (N : Dn → Prop), n δ → (∀ δ', n δ' → N δ') → tb { nx := N, ct := N, bk := E.nx, rt := E.rt } (δ.set i (some d))) → ∀ δ, n δ → forR i tb E ds δ
  | [], _, δ, h => he δ h
  | d :: ds, hb, δ, h => hb d (List.mem_cons_self ..) δ _ h fun δ' h' => forR_all n he ds (fun d hd => hb d (List.mem_cons_of_mem _ hd)) δ' h'
def LETT : Str := "abcdefghijklmnopqrstuvwxyz"
def FIGS : Str := "0123456789"
def goodC (c : Nat) : Bool := decide (c ∈ LETT.cps.toList) || decide (c ∈ FIGS.cps.toList)
theorem nm_facts : ∀ k, k < 16 → (1 ≤ (nm k).length ∧ (nm k).length ≤ 12) ∧ (∃ c, atI (nm k).cps.toList 0 = some c ∧ decide (c ∈ LETT.cps.toList) = true) ∧ (nm k).cps.toList.all goodC = true := by
  intro k hk
  have h2 : ∀ k, k < 16 → (1 ≤ (nm k).length ∧ (nm k).length ≤ 12) ∧ ((atI (nm k).cps.toList 0).any fun c => decide (c ∈ LETT.cps.toList)) = true ∧ (nm k).cps.toList.all goodC = true := by decide +kernel
  obtain ⟨h1, h3, h4⟩ := h2 k hk
  refine ⟨h1, ?_, h4⟩
  cases e : atI (nm k).cps.toList 0 with
  | none => rw [e] at h3; cases h3
  | some c => rw [e] at h3; exact ⟨c, rfl, h3⟩
theorem rd_good (ds : List PyData) (Q : PyData → Prop) (hl : ds.length = 1) (h : c_good ds Q) : t_good { nx := fun _ => Q .none, rt := Q } (startD 2 ds) := by
  obtain ⟨k, hk, rfl, hQ⟩ := h
  obtain ⟨⟨l1, l2⟩, ⟨c, hc, hm⟩, ha⟩ := nm_facts k hk
  generalize nm k = z at *
  have sz : z.length ≤ sizeLine := Nat.le_trans l2 (le_line (by decide))
  refine ⟨sz, ?_⟩
  show if decide (((z.length : Nat) : Int) < 1) = true then _ else _
  rw [if_neg (by simp; omega)]
  refine ⟨sz, ?_⟩
  show if decide ((12 : Int) < ((z.length : Nat) : Int)) = true then _ else _
  rw [if_neg (by simp; omega)]
  refine ⟨c, ⟨sz, hc⟩, c, rfl, ?_⟩
  show if (!decide (c ∈ LETT.cps.toList)) = true then _ else _
  rw [hm, if_neg (by decide)]
  show forR 1 _ _ (signs z) [some (.str z), none]
  refine forR_all (fun δ => ∃ x, δ = [some (.str z), x]) (fun δ ⟨x, e⟩ => ?_) _ (fun d hd δ N ⟨x, e⟩ hN => ?_) _ ⟨_, rfl⟩
  · subst e; exact hQ
  · subst e
    unfold signs at hd
    obtain ⟨c, hc, rfl⟩ := List.mem_map.mp hd
    have g := List.all_eq_true.mp ha c hc
    unfold goodC at g
    refine ⟨c, rfl, ?_⟩
    show if (!decide (c ∈ LETT.cps.toList)) = true then _ else _
    cases h1 : decide (c ∈ LETT.cps.toList) with
    | true => exact hN _ ⟨_, rfl⟩
    | false =>
      rw [h1] at g
      rw [if_pos (by rfl)]
      refine ⟨c, rfl, ?_⟩
      show if (!decide (c ∈ FIGS.cps.toList)) = true then _ else _
      rw [show decide (c ∈ FIGS.cps.toList) = true by simpa using g]
      exact hN _ ⟨_, rfl⟩
/-! ### weights -/
def wgtOf (m : Mk) (circ : Bool) (h : Str → Int) : Int := match m with
  | .free .. => 1
  | .foot p l | .mirror p l => h p + 2 * h l
  | .cut u c _ => if circ = true then 5 * (h u + h c) else 2 * h u + h c
  | .round p q r s | .alike p q r s => 2 * (h p + (h q + (h r + h s)))
  | .inline p q r => h p + (h q + h r)
  | .middle p q | .share p q _ | .next p q | .turn p q | .meet p q | .line p q | .along p q | .upright p q | .circle p q | .beside p q | .square p q => h p + h q
/-- the grounds' weights and, of a cut, the first ground's sort -/
structure Wgd (S : List (Str × Str)) (H : List (Str × Int)) (m : Mk) (c : Bool) (h : Str → Int) : Prop where
  hv : ∀ n ∈ m.gr, look H n = some (h n)
  sm : ∀ n ∈ m.gr, 0 ≤ h n ∧ h n ≤ 40
  c : ∀ u v k, m = .cut u v k → ∃ s, look S u = some s ∧ c = decide (s = "circle")
def sD (S : List (Str × Str)) : PyData := kvD PyData.str S
def hD (H : List (Str × Int)) : PyData := kvD PyData.int H
def c_weigh : Ct := fun ds Q => ∃ m S H c h, ds = [mkD m, sD S, hD H] ∧ Wgd S H m c h ∧ Q (.int (wgtOf m c h))
theorem compR_get {α : Type} {f : α → PyData} {L : List (Str × α)} {g : Str → α} {i j : Nat} {δ : Dn} {Q : List PyData → Prop} (hj : (δ.set i none)[j]? = some (some (kvD f L))) (hij : i ≠ j) (hi : i < δ.length) : ∀ (ns : List Str) (acc : List PyData), (∀ n ∈ ns, look L n = some (g n)) → acc.length + ns.length ≤ 1000 → Q (acc ++ ns.map fun n => f (g n)) → compR i dYes (dOp gDGet (dVar j) (dVar i)) (δ.set i none) Q (sds ns) acc
  | [], acc, _, _, q => by
    have q : Q acc := by simpa using q
    exact q
  | n :: ns, acc, hn, hl, q => by
    rw [List.length_cons] at hl
    show (if true = true then dOp gDGet (dVar j) (dVar i) ((δ.set i none).set i (some (.str n))) (fun y => acc.length < 1000 ∧ compR i dYes (dOp gDGet (dVar j) (dVar i)) (δ.set i none) Q (sds ns) (acc ++ [y])) else compR i dYes (dOp gDGet (dVar j) (dVar i)) (δ.set i none) Q (sds ns) acc)
    refine iteT ?_
    have e1 : ((δ.set i none).set i (some (.str n)))[j]? = some (some (kvD f L)) := by
      rw [List.getElem?_set_ne hij]; exact hj
    have e2 : ((δ.set i none).set i (some (.str n)))[i]? = some (some (.str n)) := by
      rw [List.getElem?_set_self (by rw [List.length_set]; exact hi)]
    have key : ∀ (a : Nat) (d : PyData) (P : PyData → Prop) (δ' : Dn), δ'[a]? = some (some d) → P d → dVar a δ' P := fun a d P δ' e p => by
      unfold dVar; rw [e]; exact p
    refine key j _ _ _ e1 (key i _ _ _ e2 ?_)
    refine gDGet_kv (hn n (List.mem_cons_self ..)) ⟨by omega, ?_⟩
    refine compR_get hj hij hi ns (acc ++ [f (g n)]) (fun x hx => hn x (List.mem_cons_of_mem _ hx)) (by simp; omega) ?_
    rw [List.append_assoc]
    exact q
theorem iw (i : Int) (n : Nat) (h : i.natAbs < 2 ^ n) (l : n ≤ 900000) (j : Int) (g : j.natAbs < 8) : CMulW j i := by
  have h1 := Bz.log h
  have h2 : Bz 3 j := g
  have h3 := Bz.log h2
  unfold CMulW
  omega
theorem smW {i : Int} (h : 0 ≤ i ∧ i ≤ 160) (j : Int) (g : j.natAbs < 8) : CMulW j i := iw i 8 (by omega) (by decide) j g
theorem gr_len (m : Mk) : m.gr.length ≤ 4 := by cases m <;> simp [Mk.gr]
theorem rd_weigh (ds : List PyData) (Q : PyData → Prop) (hl : ds.length = 3) (h : c_weigh ds Q) : t_weigh c_grounds { nx := fun _ => Q .none, rt := Q } (startD 6 ds) := by
  obtain ⟨m, S, H, c, h, rfl, W, hQ⟩ := h
  have hv := W.hv
  have sm := W.sm
  have hc := W.c
  have each : ∀ (m' : Mk) (d3 : PyData) (P : PyData → Prop), m' = m → P (.list (m.gr.map fun n => .int (h n))) → dLcL 5 (dCall 1 c_grounds (dCons (dVar 0) dNil)) dYes (dOp gDGet (dVar 2) (dVar 5)) [some (mkD m'), some (sD S), some (hD H), some d3, none, none] P := by
    intro m' d3 P e p
    subst e
    refine ⟨m', rfl, ?_⟩
    refine compR_get (f := PyData.int) (L := H) (g := h) (i := 5) (j := 2) (δ := [some (mkD m'), some (sD S), some (hD H), some d3, none, none]) rfl (by decide) (by show 5 < 6; decide) m'.gr [] hv (by have := gr_len m'; simp; omega) ?_
    exact p
  unfold t_weigh
  cases m with
  | free x y => exact hQ
  | foot p l =>
    refine seqSetV (d := .str "foot") (fun P h => h) ?_
    refine seqIfF (fun P h => h) (seqSkip ?_)
    refine seqSetV (d := .list [.int (h p), .int (h l)]) (fun P g => each (.foot p l) _ P rfl g) ?_
    refine seqIfT (fun P h => h) ?_
    exact ⟨smW (by have := sm l (by simp [Mk.gr]); omega) 2 (by decide), hQ⟩
  | mirror p l =>
    refine seqSetV (d := .str "mirror") (fun P h => h) ?_
    refine seqIfF (fun P h => h) (seqSkip ?_)
    refine seqSetV (d := .list [.int (h p), .int (h l)]) (fun P g => each (.mirror p l) _ P rfl g) ?_
    refine seqIfT (fun P h => h) ?_
    exact ⟨smW (by have := sm l (by simp [Mk.gr]); omega) 2 (by decide), hQ⟩
  | cut u v k =>
    obtain ⟨s, hs, rfl⟩ := hc u v k rfl
    have su := sm u (by simp [Mk.gr])
    have sv := sm v (by simp [Mk.gr])
    refine seqSetV (d := .str "cut") (fun P h => h) ?_
    refine seqIfF (fun P h => h) (seqSkip ?_)
    refine seqSetV (d := .list [.int (h u), .int (h v)]) (fun P g => each (.cut u v k) _ P rfl g) ?_
    refine seqIfF (fun P h => h) (seqSkip ?_)
    refine seqIfT (fun P h => h) ?_
    refine gDGet_kv hs ?_
    show if decide (s = "circle") = true then _ else _
    unfold wgtOf at hQ
    cases e : decide (s = "circle") with
    | true =>
      rw [e] at hQ
      exact ⟨smW (by omega) 5 (by decide), hQ⟩
    | false =>
      rw [e] at hQ
      exact ⟨smW (by omega) 2 (by decide), hQ⟩
  | round p q r s =>
    have s1 := sm p (by simp [Mk.gr])
    have s2 := sm q (by simp [Mk.gr])
    have s3 := sm r (by simp [Mk.gr])
    have s4 := sm s (by simp [Mk.gr])
    refine seqSetV (d := .str "round") (fun P h => h) ?_
    refine seqIfF (fun P h => h) (seqSkip ?_)
    refine seqSetV (d := .list [.int (h p), .int (h q), .int (h r), .int (h s)]) (fun P g => each (.round p q r s) _ P rfl g) ?_
    refine seqIfF (fun P h => h) (seqSkip ?_)
    refine seqIfF (fun P h => h) (seqSkip ?_)
    refine seqIfT (fun P h => h) ?_
    refine ⟨[h p, h q, h r, h s], rfl, ?_⟩
    have e : [h p, h q, h r, h s].sum = h p + (h q + (h r + h s)) := by simp
    rw [e]
    exact ⟨smW (by omega) 2 (by decide), hQ⟩
  | alike p q r s =>
    have s1 := sm p (by simp [Mk.gr])
    have s2 := sm q (by simp [Mk.gr])
    have s3 := sm r (by simp [Mk.gr])
    have s4 := sm s (by simp [Mk.gr])
    refine seqSetV (d := .str "alike") (fun P h => h) ?_
    refine seqIfF (fun P h => h) (seqSkip ?_)
    refine seqSetV (d := .list [.int (h p), .int (h q), .int (h r), .int (h s)]) (fun P g => each (.alike p q r s) _ P rfl g) ?_
    refine seqIfF (fun P h => h) (seqSkip ?_)
    refine seqIfF (fun P h => h) (seqSkip ?_)
    refine seqIfT (fun P h => h) ?_
    refine ⟨[h p, h q, h r, h s], rfl, ?_⟩
    have e : [h p, h q, h r, h s].sum = h p + (h q + (h r + h s)) := by simp
    rw [e]
    exact ⟨smW (by omega) 2 (by decide), hQ⟩
  | inline p q r =>
    refine seqSetV (d := .str "inline") (fun P h => h) ?_
    refine seqIfF (fun P h => h) (seqSkip ?_)
    refine seqSetV (d := .list [.int (h p), .int (h q), .int (h r)]) (fun P g => each (.inline p q r) _ P rfl g) ?_
    refine seqIfF (fun P h => h) (seqSkip ?_)
    refine seqIfF (fun P h => h) (seqSkip ?_)
    refine seqIfF (fun P h => h) (seqSkip ?_)
    refine ⟨[h p, h q, h r], rfl, ?_⟩
    have e : [h p, h q, h r].sum = h p + (h q + h r) := by simp
    rw [e]
    exact hQ
  | middle p q =>
    refine seqSetV (d := .str "middle") (fun P h => h) ?_
    refine seqIfF (fun P h => h) (seqSkip ?_)
    refine seqSetV (d := .list [.int (h p), .int (h q)]) (fun P g => each (.middle p q) _ P rfl g) ?_
    refine seqIfF (fun P h => h) (seqSkip ?_)
    refine seqIfF (fun P h => h) (seqSkip ?_)
    refine seqIfF (fun P h => h) (seqSkip ?_)
    refine ⟨[h p, h q], rfl, ?_⟩
    have e : [h p, h q].sum = h p + h q := by simp
    rw [e]
    exact hQ
  | share p q t =>
    refine seqSetV (d := .str "share") (fun P h => h) ?_
    refine seqIfF (fun P h => h) (seqSkip ?_)
    refine seqSetV (d := .list [.int (h p), .int (h q)]) (fun P g => each (.share p q t) _ P rfl g) ?_
    refine seqIfF (fun P h => h) (seqSkip ?_)
    refine seqIfF (fun P h => h) (seqSkip ?_)
    refine seqIfF (fun P h => h) (seqSkip ?_)
    refine ⟨[h p, h q], rfl, ?_⟩
    have e : [h p, h q].sum = h p + h q := by simp
    rw [e]
    exact hQ
  | next p q =>
    refine seqSetV (d := .str "next") (fun P h => h) ?_
    refine seqIfF (fun P h => h) (seqSkip ?_)
    refine seqSetV (d := .list [.int (h p), .int (h q)]) (fun P g => each (.next p q) _ P rfl g) ?_
    refine seqIfF (fun P h => h) (seqSkip ?_)
    refine seqIfF (fun P h => h) (seqSkip ?_)
    refine seqIfF (fun P h => h) (seqSkip ?_)
    refine ⟨[h p, h q], rfl, ?_⟩
    have e : [h p, h q].sum = h p + h q := by simp
    rw [e]
    exact hQ
  | turn p q =>
    refine seqSetV (d := .str "turn") (fun P h => h) ?_
    refine seqIfF (fun P h => h) (seqSkip ?_)
    refine seqSetV (d := .list [.int (h p), .int (h q)]) (fun P g => each (.turn p q) _ P rfl g) ?_
    refine seqIfF (fun P h => h) (seqSkip ?_)
    refine seqIfF (fun P h => h) (seqSkip ?_)
    refine seqIfF (fun P h => h) (seqSkip ?_)
    refine ⟨[h p, h q], rfl, ?_⟩
    have e : [h p, h q].sum = h p + h q := by simp
    rw [e]
    exact hQ
  | meet p q =>
    refine seqSetV (d := .str "meet") (fun P h => h) ?_
    refine seqIfF (fun P h => h) (seqSkip ?_)
    refine seqSetV (d := .list [.int (h p), .int (h q)]) (fun P g => each (.meet p q) _ P rfl g) ?_
    refine seqIfF (fun P h => h) (seqSkip ?_)
    refine seqIfF (fun P h => h) (seqSkip ?_)
    refine seqIfF (fun P h => h) (seqSkip ?_)
    refine ⟨[h p, h q], rfl, ?_⟩
    have e : [h p, h q].sum = h p + h q := by simp
    rw [e]
    exact hQ
  | line p q =>
    refine seqSetV (d := .str "line") (fun P h => h) ?_
    refine seqIfF (fun P h => h) (seqSkip ?_)
    refine seqSetV (d := .list [.int (h p), .int (h q)]) (fun P g => each (.line p q) _ P rfl g) ?_
    refine seqIfF (fun P h => h) (seqSkip ?_)
    refine seqIfF (fun P h => h) (seqSkip ?_)
    refine seqIfF (fun P h => h) (seqSkip ?_)
    refine ⟨[h p, h q], rfl, ?_⟩
    have e : [h p, h q].sum = h p + h q := by simp
    rw [e]
    exact hQ
  | along p q =>
    refine seqSetV (d := .str "along") (fun P h => h) ?_
    refine seqIfF (fun P h => h) (seqSkip ?_)
    refine seqSetV (d := .list [.int (h p), .int (h q)]) (fun P g => each (.along p q) _ P rfl g) ?_
    refine seqIfF (fun P h => h) (seqSkip ?_)
    refine seqIfF (fun P h => h) (seqSkip ?_)
    refine seqIfF (fun P h => h) (seqSkip ?_)
    refine ⟨[h p, h q], rfl, ?_⟩
    have e : [h p, h q].sum = h p + h q := by simp
    rw [e]
    exact hQ
  | upright p q =>
    refine seqSetV (d := .str "upright") (fun P h => h) ?_
    refine seqIfF (fun P h => h) (seqSkip ?_)
    refine seqSetV (d := .list [.int (h p), .int (h q)]) (fun P g => each (.upright p q) _ P rfl g) ?_
    refine seqIfF (fun P h => h) (seqSkip ?_)
    refine seqIfF (fun P h => h) (seqSkip ?_)
    refine seqIfF (fun P h => h) (seqSkip ?_)
    refine ⟨[h p, h q], rfl, ?_⟩
    have e : [h p, h q].sum = h p + h q := by simp
    rw [e]
    exact hQ
  | circle p q =>
    refine seqSetV (d := .str "circle") (fun P h => h) ?_
    refine seqIfF (fun P h => h) (seqSkip ?_)
    refine seqSetV (d := .list [.int (h p), .int (h q)]) (fun P g => each (.circle p q) _ P rfl g) ?_
    refine seqIfF (fun P h => h) (seqSkip ?_)
    refine seqIfF (fun P h => h) (seqSkip ?_)
    refine seqIfF (fun P h => h) (seqSkip ?_)
    refine ⟨[h p, h q], rfl, ?_⟩
    have e : [h p, h q].sum = h p + h q := by simp
    rw [e]
    exact hQ
  | beside p q =>
    refine seqSetV (d := .str "beside") (fun P h => h) ?_
    refine seqIfF (fun P h => h) (seqSkip ?_)
    refine seqSetV (d := .list [.int (h p), .int (h q)]) (fun P g => each (.beside p q) _ P rfl g) ?_
    refine seqIfF (fun P h => h) (seqSkip ?_)
    refine seqIfF (fun P h => h) (seqSkip ?_)
    refine seqIfF (fun P h => h) (seqSkip ?_)
    refine ⟨[h p, h q], rfl, ?_⟩
    have e : [h p, h q].sum = h p + h q := by simp
    rw [e]
    exact hQ
  | square p q =>
    refine seqSetV (d := .str "square") (fun P h => h) ?_
    refine seqIfF (fun P h => h) (seqSkip ?_)
    refine seqSetV (d := .list [.int (h p), .int (h q)]) (fun P g => each (.square p q) _ P rfl g) ?_
    refine seqIfF (fun P h => h) (seqSkip ?_)
    refine seqIfF (fun P h => h) (seqSkip ?_)
    refine seqIfF (fun P h => h) (seqSkip ?_)
    refine ⟨[h p, h q], rfl, ?_⟩
    have e : [h p, h q].sum = h p + h q := by simp
    rw [e]
    exact hQ
theorem rd_law_weight (ds : List PyData) (Q : PyData → Prop) (hl : ds.length = 3) (h : c_weigh ds Q) : t_law_weight c_grounds { nx := fun _ => Q .none, rt := Q } (startD 5 ds) := by
  obtain ⟨m, S, H, c, h, rfl, W, hQ⟩ := h
  have hv := W.hv
  have sm := W.sm
  have hc := W.c
  have each : ∀ (m' : Mk) (P : PyData → Prop), m' = m → P (.list (m.gr.map fun n => .int (h n))) → dLcL 4 (dCall 1 c_grounds (dCons (dVar 0) dNil)) dYes (dOp gDGet (dVar 2) (dVar 4)) [some (mkD m'), some (sD S), some (hD H), none, none] P := by
    intro m' P e p
    subst e
    refine ⟨m', rfl, ?_⟩
    refine compR_get (f := PyData.int) (L := H) (g := h) (i := 4) (j := 2) (δ := [some (mkD m'), some (sD S), some (hD H), none, none]) rfl (by decide) (by show 4 < 5; decide) m'.gr [] hv (by have := gr_len m'; simp; omega) ?_
    exact p
  unfold t_law_weight
  cases m with
  | free x y =>
    refine seqSetV (d := .list []) (fun P g => each (.free x y) P rfl g) ?_
    refine seqIfT (fun P h => h) ?_
    exact hQ
  | foot p l =>
    refine seqSetV (d := .list [.int (h p), .int (h l)]) (fun P g => each (.foot p l) P rfl g) ?_
    refine seqIfF (fun P h => h) (seqSkip ?_)
    refine seqIfT (fun P h => h) ?_
    exact ⟨smW (by have := sm l (by simp [Mk.gr]); omega) 2 (by decide), hQ⟩
  | mirror p l =>
    refine seqSetV (d := .list [.int (h p), .int (h l)]) (fun P g => each (.mirror p l) P rfl g) ?_
    refine seqIfF (fun P h => h) (seqSkip ?_)
    refine seqIfT (fun P h => h) ?_
    exact ⟨smW (by have := sm l (by simp [Mk.gr]); omega) 2 (by decide), hQ⟩
  | cut u v k =>
    obtain ⟨s, hs, rfl⟩ := hc u v k rfl
    have su := sm u (by simp [Mk.gr])
    have sv := sm v (by simp [Mk.gr])
    refine seqSetV (d := .list [.int (h u), .int (h v)]) (fun P g => each (.cut u v k) P rfl g) ?_
    refine seqIfF (fun P h => h) (seqSkip ?_)
    refine seqIfF (fun P h => h) (seqSkip ?_)
    unfold wgtOf at hQ
    cases e : decide (s = "circle") with
    | true =>
      rw [e] at hQ
      refine seqIfT (fun P g => gDGet_kv hs (show P (decide (s = "circle")) by rw [e]; exact g)) ?_
      exact ⟨smW (by omega) 5 (by decide), hQ⟩
    | false =>
      rw [e] at hQ
      refine seqIfF (fun P g => gDGet_kv hs (show P (decide (s = "circle")) by rw [e]; exact g)) (seqSkip ?_)
      refine seqIfT (fun P h => h) ?_
      exact ⟨smW (by omega) 2 (by decide), hQ⟩
  | round p q r s =>
    have s1 := sm p (by simp [Mk.gr])
    have s2 := sm q (by simp [Mk.gr])
    have s3 := sm r (by simp [Mk.gr])
    have s4 := sm s (by simp [Mk.gr])
    refine seqSetV (d := .list [.int (h p), .int (h q), .int (h r), .int (h s)]) (fun P g => each (.round p q r s) P rfl g) ?_
    refine seqIfF (fun P h => h) (seqSkip ?_)
    refine seqIfF (fun P h => h) (seqSkip ?_)
    refine seqIfF (fun P h => h) (seqSkip ?_)
    refine seqIfF (fun P h => h) (seqSkip ?_)
    refine seqIfT (fun P h => h) ?_
    refine ⟨[h p, h q, h r, h s], rfl, ?_⟩
    have e : [h p, h q, h r, h s].sum = h p + (h q + (h r + h s)) := by simp
    rw [e]
    exact ⟨smW (by omega) 2 (by decide), hQ⟩
  | alike p q r s =>
    have s1 := sm p (by simp [Mk.gr])
    have s2 := sm q (by simp [Mk.gr])
    have s3 := sm r (by simp [Mk.gr])
    have s4 := sm s (by simp [Mk.gr])
    refine seqSetV (d := .list [.int (h p), .int (h q), .int (h r), .int (h s)]) (fun P g => each (.alike p q r s) P rfl g) ?_
    refine seqIfF (fun P h => h) (seqSkip ?_)
    refine seqIfF (fun P h => h) (seqSkip ?_)
    refine seqIfF (fun P h => h) (seqSkip ?_)
    refine seqIfF (fun P h => h) (seqSkip ?_)
    refine seqIfT (fun P h => h) ?_
    refine ⟨[h p, h q, h r, h s], rfl, ?_⟩
    have e : [h p, h q, h r, h s].sum = h p + (h q + (h r + h s)) := by simp
    rw [e]
    exact ⟨smW (by omega) 2 (by decide), hQ⟩
  | inline p q r =>
    refine seqSetV (d := .list [.int (h p), .int (h q), .int (h r)]) (fun P g => each (.inline p q r) P rfl g) ?_
    refine seqIfF (fun P h => h) (seqSkip ?_)
    refine seqIfF (fun P h => h) (seqSkip ?_)
    refine seqIfF (fun P h => h) (seqSkip ?_)
    refine seqIfF (fun P h => h) (seqSkip ?_)
    refine seqIfF (fun P h => h) (seqSkip ?_)
    refine ⟨[h p, h q, h r], rfl, ?_⟩
    have e : [h p, h q, h r].sum = h p + (h q + h r) := by simp
    rw [e]
    exact hQ
  | middle p q =>
    refine seqSetV (d := .list [.int (h p), .int (h q)]) (fun P g => each (.middle p q) P rfl g) ?_
    refine seqIfF (fun P h => h) (seqSkip ?_)
    refine seqIfF (fun P h => h) (seqSkip ?_)
    refine seqIfF (fun P h => h) (seqSkip ?_)
    refine seqIfF (fun P h => h) (seqSkip ?_)
    refine seqIfF (fun P h => h) (seqSkip ?_)
    refine ⟨[h p, h q], rfl, ?_⟩
    have e : [h p, h q].sum = h p + h q := by simp
    rw [e]
    exact hQ
  | share p q t =>
    refine seqSetV (d := .list [.int (h p), .int (h q)]) (fun P g => each (.share p q t) P rfl g) ?_
    refine seqIfF (fun P h => h) (seqSkip ?_)
    refine seqIfF (fun P h => h) (seqSkip ?_)
    refine seqIfF (fun P h => h) (seqSkip ?_)
    refine seqIfF (fun P h => h) (seqSkip ?_)
    refine seqIfF (fun P h => h) (seqSkip ?_)
    refine ⟨[h p, h q], rfl, ?_⟩
    have e : [h p, h q].sum = h p + h q := by simp
    rw [e]
    exact hQ
  | next p q =>
    refine seqSetV (d := .list [.int (h p), .int (h q)]) (fun P g => each (.next p q) P rfl g) ?_
    refine seqIfF (fun P h => h) (seqSkip ?_)
    refine seqIfF (fun P h => h) (seqSkip ?_)
    refine seqIfF (fun P h => h) (seqSkip ?_)
    refine seqIfF (fun P h => h) (seqSkip ?_)
    refine seqIfF (fun P h => h) (seqSkip ?_)
    refine ⟨[h p, h q], rfl, ?_⟩
    have e : [h p, h q].sum = h p + h q := by simp
    rw [e]
    exact hQ
  | turn p q =>
    refine seqSetV (d := .list [.int (h p), .int (h q)]) (fun P g => each (.turn p q) P rfl g) ?_
    refine seqIfF (fun P h => h) (seqSkip ?_)
    refine seqIfF (fun P h => h) (seqSkip ?_)
    refine seqIfF (fun P h => h) (seqSkip ?_)
    refine seqIfF (fun P h => h) (seqSkip ?_)
    refine seqIfF (fun P h => h) (seqSkip ?_)
    refine ⟨[h p, h q], rfl, ?_⟩
    have e : [h p, h q].sum = h p + h q := by simp
    rw [e]
    exact hQ
  | meet p q =>
    refine seqSetV (d := .list [.int (h p), .int (h q)]) (fun P g => each (.meet p q) P rfl g) ?_
    refine seqIfF (fun P h => h) (seqSkip ?_)
    refine seqIfF (fun P h => h) (seqSkip ?_)
    refine seqIfF (fun P h => h) (seqSkip ?_)
    refine seqIfF (fun P h => h) (seqSkip ?_)
    refine seqIfF (fun P h => h) (seqSkip ?_)
    refine ⟨[h p, h q], rfl, ?_⟩
    have e : [h p, h q].sum = h p + h q := by simp
    rw [e]
    exact hQ
  | line p q =>
    refine seqSetV (d := .list [.int (h p), .int (h q)]) (fun P g => each (.line p q) P rfl g) ?_
    refine seqIfF (fun P h => h) (seqSkip ?_)
    refine seqIfF (fun P h => h) (seqSkip ?_)
    refine seqIfF (fun P h => h) (seqSkip ?_)
    refine seqIfF (fun P h => h) (seqSkip ?_)
    refine seqIfF (fun P h => h) (seqSkip ?_)
    refine ⟨[h p, h q], rfl, ?_⟩
    have e : [h p, h q].sum = h p + h q := by simp
    rw [e]
    exact hQ
  | along p q =>
    refine seqSetV (d := .list [.int (h p), .int (h q)]) (fun P g => each (.along p q) P rfl g) ?_
    refine seqIfF (fun P h => h) (seqSkip ?_)
    refine seqIfF (fun P h => h) (seqSkip ?_)
    refine seqIfF (fun P h => h) (seqSkip ?_)
    refine seqIfF (fun P h => h) (seqSkip ?_)
    refine seqIfF (fun P h => h) (seqSkip ?_)
    refine ⟨[h p, h q], rfl, ?_⟩
    have e : [h p, h q].sum = h p + h q := by simp
    rw [e]
    exact hQ
  | upright p q =>
    refine seqSetV (d := .list [.int (h p), .int (h q)]) (fun P g => each (.upright p q) P rfl g) ?_
    refine seqIfF (fun P h => h) (seqSkip ?_)
    refine seqIfF (fun P h => h) (seqSkip ?_)
    refine seqIfF (fun P h => h) (seqSkip ?_)
    refine seqIfF (fun P h => h) (seqSkip ?_)
    refine seqIfF (fun P h => h) (seqSkip ?_)
    refine ⟨[h p, h q], rfl, ?_⟩
    have e : [h p, h q].sum = h p + h q := by simp
    rw [e]
    exact hQ
  | circle p q =>
    refine seqSetV (d := .list [.int (h p), .int (h q)]) (fun P g => each (.circle p q) P rfl g) ?_
    refine seqIfF (fun P h => h) (seqSkip ?_)
    refine seqIfF (fun P h => h) (seqSkip ?_)
    refine seqIfF (fun P h => h) (seqSkip ?_)
    refine seqIfF (fun P h => h) (seqSkip ?_)
    refine seqIfF (fun P h => h) (seqSkip ?_)
    refine ⟨[h p, h q], rfl, ?_⟩
    have e : [h p, h q].sum = h p + h q := by simp
    rw [e]
    exact hQ
  | beside p q =>
    refine seqSetV (d := .list [.int (h p), .int (h q)]) (fun P g => each (.beside p q) P rfl g) ?_
    refine seqIfF (fun P h => h) (seqSkip ?_)
    refine seqIfF (fun P h => h) (seqSkip ?_)
    refine seqIfF (fun P h => h) (seqSkip ?_)
    refine seqIfF (fun P h => h) (seqSkip ?_)
    refine seqIfF (fun P h => h) (seqSkip ?_)
    refine ⟨[h p, h q], rfl, ?_⟩
    have e : [h p, h q].sum = h p + h q := by simp
    rw [e]
    exact hQ
  | square p q =>
    refine seqSetV (d := .list [.int (h p), .int (h q)]) (fun P g => each (.square p q) P rfl g) ?_
    refine seqIfF (fun P h => h) (seqSkip ?_)
    refine seqIfF (fun P h => h) (seqSkip ?_)
    refine seqIfF (fun P h => h) (seqSkip ?_)
    refine seqIfF (fun P h => h) (seqSkip ?_)
    refine seqIfF (fun P h => h) (seqSkip ?_)
    refine ⟨[h p, h q], rfl, ?_⟩
    have e : [h p, h q].sum = h p + h q := by simp
    rw [e]
    exact hQ
/-! ### grounds stand, admitted -/
def Fits2 (S : List (Str × Str)) : List Str → List Str → Prop
  | n :: ns, a :: as => (∃ s, look S n = some s ∧ suitsB s a = true) ∧ Fits2 S ns as
  | [], [] => True
  | _, _ => False
def c_grounds_stand : Ct := fun ds Q => ∃ S m, ds = [sD S, mkD m] ∧ Fits2 S m.gr m.asked ∧ Q .none
theorem Fits2.len {S : List (Str × Str)} : ∀ {ns as : List Str}, Fits2 S ns as → ns.length = as.length
  | [], [], _ => rfl
  | n :: ns, a :: as, h => by rw [List.length_cons, List.length_cons, Fits2.len h.2]
  | [], _ :: _, h => h.elim
  | _ :: _, [], h => h.elim
theorem Fits2.mem {S : List (Str × Str)} : ∀ {ns as : List Str}, Fits2 S ns as → ∀ n ∈ ns, (look S n).isSome = true
  | n :: ns, a :: as, h, x, hx => by
    rcases List.mem_cons.mp hx with e | e
    · subst e; obtain ⟨⟨s, h1, _⟩, _⟩ := h; rw [h1]; rfl
    · exact Fits2.mem h.2 x e
  | [], [], _, _, hx => by cases hx
  | [], _ :: _, h, _, _ => h.elim
  | _ :: _, [], h, _, _ => h.elim
theorem stand2 {S : List (Str × Str)} {M : PyData} {E : DE} (he : ∀ x y, E.nx [some (sD S), some M, x, y]) : ∀ (ns as : List Str) (x y : Option PyData), Fits2 S ns as →
    forR2 2 3 (dIf (dNot (dVal (dCall 2 c_suits (dCons (dOp gDGet (dVar 0) (dVar 2)) (dCons (dVar 3) dNil))))) dNever dSkip) E (sds ns) (sds as) [some (sD S), some M, x, y]
  | [], [], x, y, _ => he x y
  | n :: ns, a :: as, x, y, h => by
    obtain ⟨⟨s, h1, h2⟩, h3⟩ := h
    refine gDGet_kv h1 ⟨s, a, rfl, ?_⟩
    rw [h2]
    exact stand2 he ns as _ _ h3
  | [], _ :: _, _, _, h => h.elim
  | _ :: _, [], _, _, h => h.elim
theorem rd_grounds_stand (ds : List PyData) (Q : PyData → Prop) (hl : ds.length = 2) (h : c_grounds_stand ds Q) : t_grounds_stand c_suits c_asked_sorts c_grounds { nx := fun _ => Q .none, rt := Q } (startD 4 ds) := by
  obtain ⟨S, m, rfl, hf, hQ⟩ := h
  refine ⟨m, rfl, ?_⟩
  show forR 2 _ _ (sds m.gr) [some (sD S), some (mkD m), none, none]
  refine forR_all (fun δ => ∃ x, δ = [some (sD S), some (mkD m), x, none]) (fun δ ⟨x, e⟩ => ?_) _ (fun d hd δ N ⟨x, e⟩ hN => ?_) _ ⟨_, rfl⟩
  · subst e
    refine ⟨m, rfl, m, rfl, ?_⟩
    refine ⟨by unfold sds; rw [List.length_map, List.length_map, hf.len], ?_⟩
    exact stand2 (fun _ _ => hQ) _ _ _ _ hf
  · subst e
    obtain ⟨n, hn, rfl⟩ := List.mem_map.mp hd
    refine (show gDNotIn (.str n) (sD S) (fun b => if b = true then False else N [some (sD S), some (mkD m), some (.str n), none]) from gDNotIn_kv ?_)
    rw [hf.mem n hn]
    exact hN _ ⟨_, rfl⟩
def c_admitted : Ct := fun ds Q => ∃ S H k m c h, ds = [sD S, hD H, .str (nm k), mkD m] ∧ k < 16 ∧ look S (nm k) = none ∧ Fits2 S m.gr m.asked ∧ NotFar m ∧ Wgd S H m c h ∧ wgtOf m c h ≤ 40 ∧ Q (.int (wgtOf m c h))
theorem rd_admitted (ds : List PyData) (Q : PyData → Prop) (hl : ds.length = 4) (h : c_admitted ds Q) : t_admitted c_weigh c_too_far c_grounds_stand c_good { nx := fun _ => Q .none, rt := Q } (startD 5 ds) := by
  obtain ⟨S, H, k, m, c, h, rfl, hk, hn, hf, hfar, W, l40, hQ⟩ := h
  unfold t_admitted
  refine seqIfF (fun P g => ⟨k, hk, rfl, g⟩) (seqSkip ?_)
  refine seqIfF (fun P g => gDIn_kv (by rw [hn]; exact g)) (seqSkip ?_)
  refine ⟨S, m, rfl, hf, ?_⟩
  refine ⟨m, rfl, hfar, ?_⟩
  refine ⟨m, S, H, c, h, rfl, W, ?_⟩
  show if decide ((40 : Int) < wgtOf m c h) = true then _ else _
  rw [if_neg (by simp; omega)]
  exact hQ
end Mb
set_option Elab.async false
set_option linter.all false
set_option maxRecDepth 100000
set_option maxHeartbeats 1000000
namespace Mb
open PySem PySem.Spec PyProof.Rows L2
local macro_rules | `(tactic| walk_at "nrm") => `(tactic| try dsimp only [startD, setAll, gSub, gAdd, gNeg, List.map, List.length, List.replicate, HAppend.hAppend, Append.append, List.append, List.set, Nat.reduceAdd, Nat.reduceSub])
/-! ### a making with its grounds' places -/
inductive Rm where
  | free (x y : Rat)
  | middle (p q : Pl)
  | share (p q : Pl) (t : Rat)
  | next (p q : Pl)
  | turn (p q : Pl)
  | foot (p : Pl) (l : Ln)
  | mirror (p : Pl) (l : Ln)
  | meet (l m : Ln)
  | cutL (l : Ln) (C : Ci) (k : Int)
  | cutC (A B : Ci) (k : Int)
  | line (p q : Pl)
  | along (p : Pl) (l : Ln)
  | upright (p : Pl) (l : Ln)
  | circle (p q : Pl)
  | inline (p q r : Pl)
  | round (p q r s : Pl)
  | alike (p q r s : Pl)
  | beside (l m : Ln)
  | square (l m : Ln)
/-- what a deed finds -/
inductive MR where
  | ok (t : Tl)
  | fails (w : Str)
def mrD : MR → PyData
  | .ok t => tlD t
  | .fails w => .tuple [.str "fails", .str w]
open Classical in
noncomputable def cutR (l : Ln) (C : Ci) (k : Int) : MR :=
  if dR l C < 0 then .fails "miss" else if h : ∃ r : Rat, 0 ≤ r ∧ r * r = dR l C then .ok (.pt (if k = 1 then cutFst l C (Classical.choose h) else cutSnd l C (Classical.choose h))) else .fails "root"
def keptOr (b : Bool) : MR := if b = true then .ok .kept else .ok .broken
open Classical in
noncomputable def made : Rm → MR
  | .free x y => .ok (.pt (x, y))
  | .middle p q => .ok (.pt (middle p q))
  | .share p q t => .ok (.pt (share p q t))
  | .next p q => .ok (.pt (beyond p q))
  | .turn p q => .ok (.pt (turned p q))
  | .foot p l => .ok (.pt (foot p l))
  | .mirror p l => .ok (.pt (mirror p l))
  | .meet l m => if par l m then .fails "parallel" else .ok (.pt (meet l m))
  | .cutL l C k => cutR l C k
  | .cutC A B k => if A.c = B.c then .fails "centre" else cutR (betw A B) A k
  | .line p q => if p = q then .fails "same" else .ok (.line (through p q))
  | .along p l => .ok (.line (along p l))
  | .upright p l => .ok (.line (upright p l))
  | .circle p q => if p = q then .fails "same" else .ok (.circle (about p q))
  | .inline p q r => keptOr (decide (crossR p q r = 0))
  | .round p q r s => keptOr (decide (roundR p q r s = 0))
  | .alike p q r s => keptOr (decide (sqb p q = sqb r s))
  | .beside l m => keptOr (decide (l.a * m.b = l.b * m.a))
  | .square l m => keptOr (decide (l.a * m.a + l.b * m.b = 0))
/-- the sizes that a making asks of the program's functions -/
def SzM : Rm → Prop
  | .free _ _ => True
  | .middle p q | .next p q => ∃ m n, BP m p ∧ BP n q ∧ m + m + n < 13200
  | .share p q t => ∃ m n k, BP m p ∧ BP n q ∧ Bd k t ∧ m + m + n + k < 13300
  | .turn p q => ∃ m n, BP m p ∧ BP n q ∧ m + n + n < 13200
  | .foot p l => Nm l ∧ ∃ m n, BP m p ∧ BL n l ∧ m + m + n + n < 13200
  | .mirror p l => Nm l ∧ ∃ m n k, BP m p ∧ BL n l ∧ BP k (foot p l) ∧ m + m + n + n < 13200 ∧ m + m + k < 13200
  | .meet l m => ∃ j k, BL j l ∧ BL k m ∧ j + k < 13300
  | .cutL l C k => Nm l ∧ SzCut l C ∧ (k = 1 ∨ k = 2)
  | .cutC A B k => (A.c ≠ B.c → SzB A B ∧ SzCut (betw A B) A) ∧ (k = 1 ∨ k = 2)
  | .line p q => ∃ m n, BP m p ∧ BP n q ∧ m + m + n + n < 13300
  | .along p l | .upright p l => Nm l ∧ ∃ m n, BP m p ∧ BL n l ∧ m + m + n < 13300
  | .circle p q => ∃ m n, BP m p ∧ BP n q ∧ m + n < 3300
  | .inline p q r => ∃ i j k, BP i p ∧ BP j q ∧ BP k r ∧ 2 * i + 2 * j + 4 * k + 4 < 13300
  | .round p q r s => SzR p q r s
  | .alike p q r s => ∃ i j k l, BP i p ∧ BP j q ∧ BP k r ∧ BP l s ∧ i + j < 3300 ∧ k + l < 3300
  | .beside l m | .square l m => ∃ i j, BL i l ∧ BL j m ∧ i + j < 13300
/-! ### judged -/
def c_judged : Ct := fun ds Q =>
  (∃ p q r, ds = [.str "inline", .list [pl p, pl q, pl r]] ∧ SzM (.inline p q r) ∧ Q (.bool (decide (crossR p q r = 0)))) ∨
  (∃ p q r s, ds = [.str "round", .list [pl p, pl q, pl r, pl s]] ∧ SzM (.round p q r s) ∧ Q (.bool (decide (roundR p q r s = 0)))) ∨
  (∃ p q r s, ds = [.str "alike", .list [pl p, pl q, pl r, pl s]] ∧ SzM (.alike p q r s) ∧ Q (.bool (decide (sqb p q = sqb r s)))) ∨
  (∃ l m, ds = [.str "beside", .list [ln l, ln m]] ∧ SzM (.beside l m) ∧ Q (.bool (decide (l.a * m.b = l.b * m.a)))) ∨
  (∃ l m, ds = [.str "square", .list [ln l, ln m]] ∧ SzM (.square l m) ∧ Q (.bool (decide (l.a * m.a + l.b * m.b = 0))))
theorem rd_judged (ds : List PyData) (Q : PyData → Prop) (hl : ds.length = 2) (h : c_judged ds Q) : t_judged c_square_on c_side_by_side c_as_far c_all_round c_in_line { nx := fun _ => Q .none, rt := Q } (startD 2 ds) := by
  unfold t_judged
  rcases h with ⟨p, q, r, rfl, hs, hQ⟩ | ⟨p, q, r, s, rfl, hs, hQ⟩ | ⟨p, q, r, s, rfl, hs, hQ⟩ | ⟨l, m, rfl, hs, hQ⟩ | ⟨l, m, rfl, hs, hQ⟩
  · refine seqIfT (fun P h => h) ?_
    exact ⟨p, q, r, rfl, hs, hQ⟩
  · refine seqIfF (fun P h => h) (seqSkip ?_)
    refine seqIfT (fun P h => h) ?_
    exact ⟨p, q, r, s, rfl, hs, hQ⟩
  · refine seqIfF (fun P h => h) (seqSkip ?_)
    refine seqIfF (fun P h => h) (seqSkip ?_)
    refine seqIfT (fun P h => h) ?_
    exact ⟨p, q, r, s, rfl, hs, hQ⟩
  · refine seqIfF (fun P h => h) (seqSkip ?_)
    refine seqIfF (fun P h => h) (seqSkip ?_)
    refine seqIfF (fun P h => h) (seqSkip ?_)
    refine seqIfT (fun P h => h) ?_
    exact ⟨l, m, rfl, hs, hQ⟩
  · refine seqIfF (fun P h => h) (seqSkip ?_)
    refine seqIfF (fun P h => h) (seqSkip ?_)
    refine seqIfF (fun P h => h) (seqSkip ?_)
    refine seqIfF (fun P h => h) (seqSkip ?_)
    exact ⟨l, m, rfl, hs, hQ⟩
/-- found or none: what shown_or takes -/
def c_shown_or : Ct := fun ds Q => ∃ w y, (ds = [.str w, .none, .str y] ∧ Q (.tuple [.str "fails", .str y])) ∨ (∃ xs, ds = [.str w, .tuple xs, .str y] ∧ xs ≠ [] ∧ xs.length ≤ 9 ∧ Q (.tuple (.str w :: xs)))
theorem rd_shown_or (ds : List PyData) (Q : PyData → Prop) (hl : ds.length = 3) (h : c_shown_or ds Q) : t_shown_or { nx := fun _ => Q .none, rt := Q } (startD 3 ds) := by
  obtain ⟨w, y, h⟩ := h
  unfold t_shown_or
  rcases h with ⟨rfl, hQ⟩ | ⟨xs, rfl, h1, h2, hQ⟩
  · refine seqIfT (fun P h => h) ?_
    exact hQ
  · refine seqIfF (fun P h => h) (seqSkip ?_)
    exact ⟨⟨by simp, h1, by simp; omega⟩, hQ⟩
def c_cut_made : Ct := fun ds Q => (∃ l C k, ds = [tlD (.line l), tlD (.circle C), .int k] ∧ SzM (.cutL l C k) ∧ Q (mrD (made (.cutL l C k)))) ∨ (∃ A B k, ds = [tlD (.circle A), tlD (.circle B), .int k] ∧ SzM (.cutC A B k) ∧ Q (mrD (made (.cutC A B k))))
theorem sqrt_uniq {r s : Rat} (hr : 0 ≤ r) (hs : 0 ≤ s) (h : r * r = s * s) : r = s := by
  have e : (r - s) * (r + s) = 0 := by grind
  rcases Rat.mul_eq_zero.mp e with q | q
  · grind
  · grind
theorem cutR_root {l : Ln} {C : Ci} {k : Int} {r : Rat} (h0 : 0 ≤ dR l C) (hr : 0 ≤ r) (e : r * r = dR l C) : cutR l C k = .ok (.pt (if k = 1 then cutFst l C r else cutSnd l C r)) := by
  unfold cutR
  have ex : ∃ r : Rat, 0 ≤ r ∧ r * r = dR l C := ⟨r, hr, e⟩
  rw [if_neg (Rat.not_lt.mpr h0), dif_pos ex]
  obtain ⟨c0, c1⟩ := Classical.choose_spec ex
  have : Classical.choose ex = r := sqrt_uniq c0 hr (by rw [c1, e])
  rw [this]
theorem cutR_miss {l : Ln} {C : Ci} {k : Int} (h0 : dR l C < 0) : cutR l C k = .fails "miss" := by unfold cutR; rw [if_pos h0]
theorem cutR_none {l : Ln} {C : Ci} {k : Int} (h0 : 0 ≤ dR l C) (h : ∀ r : Rat, r * r ≠ dR l C) : cutR l C k = .fails "root" := by
  unfold cutR
  rw [if_neg (Rat.not_lt.mpr h0), dif_neg (fun ⟨r, _, e⟩ => h r e)]
def cutTail : TDS :=
  (dSeq (dIf (dCmpT cNe (dVar 3) (dC (.str "at"))) (dRet (dTup (dCons (dC (.str "fails")) (dCons (dVar 3) dNil)))) dSkip)
    (dRet (dOp gCatT (dTup (dCons (dC (.str "at")) dNil)) (dOp gIx (dVar 4) (dOp gSub (dVar 2) (dC (.int 1)))))))
def cutU (one two : PyData) (k : Int) (Q : PyData → Prop) (d : PyData) : Prop := match d with
  | .tuple ds => ds.length = 2 ∧ cutTail { nx := fun _ => Q .none, rt := Q } (setAll [some one, some two, some (.int k), none, none] [3, 4] ds)
  | _ => False
theorem cut_q {l : Ln} {C : Ci} {k : Int} (hk : k = 1 ∨ k = 2) {Q : PyData → Prop} (hQ : Q (mrD (cutR l C k))) (one two : PyData) : CutQ l C (cutU one two k Q) := by
  refine ⟨fun h => ?_, fun h0 h => ?_, fun r hr e => ?_⟩
  · rw [cutR_miss h] at hQ
    refine ⟨rfl, ?_⟩
    unfold cutTail
    refine seqIfT (fun P h => h) ?_
    exact hQ
  · rw [cutR_none h0 h] at hQ
    refine ⟨rfl, ?_⟩
    unfold cutTail
    refine seqIfT (fun P h => h) ?_
    exact hQ
  · have h0 : 0 ≤ dR l C := by rw [← e]; exact Rat.mul_nonneg hr hr
    rw [cutR_root h0 hr e] at hQ
    refine ⟨rfl, ?_⟩
    unfold cutTail
    refine seqIfF (fun P h => h) (seqSkip ?_)
    rcases hk with rfl | rfl
    · rw [if_pos rfl] at hQ
      exact ⟨⟨by simp, by simp, by simp⟩, hQ⟩
    · rw [if_neg (by decide)] at hQ
      exact ⟨⟨by simp, by simp, by simp⟩, hQ⟩
theorem rd_cut_made (ds : List PyData) (Q : PyData → Prop) (hl : ds.length = 3) (h : c_cut_made ds Q) : t_cut_made c_line_cuts c_ring_cuts { nx := fun _ => Q .none, rt := Q } (startD 5 ds) := by
  unfold t_cut_made
  rcases h with ⟨l, C, k, rfl, ⟨nl, sz, hk⟩, hQ⟩ | ⟨A, B, k, rfl, ⟨hs, hk⟩, hQ⟩
  · refine seqIfT (fun P h => h) ?_
    exact ⟨nw _ _, nw _ _, l, C, rfl, nl, sz, cut_q hk hQ (tlD (.line l)) (tlD (.circle C))⟩
  · refine seqIfF (fun P h => h) ?_
    refine ⟨nw _ _, nw _ _, A, B, rfl, fun e => ?_, fun e => ?_⟩
    · have e2 : made (.cutC A B k) = .fails "centre" := if_pos e
      have hQ2 : Q (mrD (made (.cutC A B k))) := hQ
      rw [e2] at hQ2
      refine (show cutU (tlD (.circle A)) (tlD (.circle B)) k Q (.tuple [.str "centre", .list []]) from ⟨rfl, ?_⟩)
      unfold cutTail
      refine seqIfT (fun P h => h) ?_
      exact hQ2
    · have e2 : made (.cutC A B k) = cutR (betw A B) A k := if_neg e
      have hQ2 : Q (mrD (made (.cutC A B k))) := hQ
      rw [e2] at hQ2
      exact ⟨(hs e).1, (hs e).2, cut_q hk hQ2 (tlD (.circle A)) (tlD (.circle B))⟩
end Mb
set_option Elab.async false
set_option linter.all false
set_option maxRecDepth 100000
set_option maxHeartbeats 1000000
namespace Mb
open PySem PySem.Spec PyProof.Rows L2
local macro_rules | `(tactic| walk_at "nrm") => `(tactic| try dsimp only [startD, setAll, gSub, gAdd, gNeg, List.map, List.length, List.replicate, HAppend.hAppend, Append.append, List.append, List.set, Nat.reduceAdd, Nat.reduceSub])
/-- a making's grounds as they have been told -/
inductive Res (f : Str → Option Tl) : Mk → Rm → Prop
  | free {x y} : Res f (.free x y) (.free x y)
  | middle {p q P Q} : f p = some (.pt P) → f q = some (.pt Q) → Res f (.middle p q) (.middle P Q)
  | share {p q P Q t} : f p = some (.pt P) → f q = some (.pt Q) → Res f (.share p q t) (.share P Q t)
  | next {p q P Q} : f p = some (.pt P) → f q = some (.pt Q) → Res f (.next p q) (.next P Q)
  | turn {p q P Q} : f p = some (.pt P) → f q = some (.pt Q) → Res f (.turn p q) (.turn P Q)
  | foot {p q P L} : f p = some (.pt P) → f q = some (.line L) → Res f (.foot p q) (.foot P L)
  | mirror {p q P L} : f p = some (.pt P) → f q = some (.line L) → Res f (.mirror p q) (.mirror P L)
  | meet {p q L M} : f p = some (.line L) → f q = some (.line M) → Res f (.meet p q) (.meet L M)
  | cutL {p q k L C} : f p = some (.line L) → f q = some (.circle C) → Res f (.cut p q k) (.cutL L C k)
  | cutC {p q k A C} : f p = some (.circle A) → f q = some (.circle C) → Res f (.cut p q k) (.cutC A C k)
  | line {p q P Q} : f p = some (.pt P) → f q = some (.pt Q) → Res f (.line p q) (.line P Q)
  | along {p q P L} : f p = some (.pt P) → f q = some (.line L) → Res f (.along p q) (.along P L)
  | upright {p q P L} : f p = some (.pt P) → f q = some (.line L) → Res f (.upright p q) (.upright P L)
  | circle {p q P Q} : f p = some (.pt P) → f q = some (.pt Q) → Res f (.circle p q) (.circle P Q)
  | inline {p q r P Q R} : f p = some (.pt P) → f q = some (.pt Q) → f r = some (.pt R) → Res f (.inline p q r) (.inline P Q R)
  | round {p q r s P Q R S} : f p = some (.pt P) → f q = some (.pt Q) → f r = some (.pt R) → f s = some (.pt S) → Res f (.round p q r s) (.round P Q R S)
  | alike {p q r s P Q R S} : f p = some (.pt P) → f q = some (.pt Q) → f r = some (.pt R) → f s = some (.pt S) → Res f (.alike p q r s) (.alike P Q R S)
  | beside {p q L M} : f p = some (.line L) → f q = some (.line M) → Res f (.beside p q) (.beside L M)
  | square {p q L M} : f p = some (.line L) → f q = some (.line M) → Res f (.square p q) (.square L M)
abbrev At := List (Str × Tl)
def atD (A : At) : PyData := kvD tlD A
def c_made_of : Ct := fun ds Q => ∃ m A r, ds = [mkD m, atD A] ∧ Res (look A) m r ∧ SzM r ∧ Q (mrD (made r))
/-! ### what is gone -/
def goneD (x : Str × Str) : PyData := tlD (.gone x.1 x.2)
def gone1 (A : At) (n : Str) : List (Str × Str) := match look A n with
  | some (.gone a b) => [(a, b)]
  | _ => []
def goneL (A : At) : List Str → List (Str × Str)
  | [] => []
  | n :: ns => gone1 A n ++ goneL A ns
theorem goneL_len (A : At) : ∀ ns, (goneL A ns).length ≤ ns.length
  | [] => Nat.le_refl _
  | n :: ns => by
    have := goneL_len A ns
    have h1 : (gone1 A n).length ≤ 1 := by unfold gone1; split <;> simp
    simp only [goneL, List.length_append, List.length_cons]
    omega
abbrev testG (j i : Nat) : TDT := dCmpT cEq (dOp gIx (dOp gDGet (dVar j) (dVar i)) (dC (.int 0))) (dC (.str "gone"))
theorem dVar_at {a : Nat} {d : PyData} {P : PyData → Prop} {δ : Dn} (e : δ[a]? = some (some d)) (p : P d) : dVar a δ P := by unfold dVar; rw [e]; exact p
theorem compR_gone {A : At} {i j : Nat} {δ : Dn} {Q : List PyData → Prop} (hj : (δ.set i none)[j]? = some (some (atD A))) (hij : i ≠ j) (hi : i < δ.length) : ∀ (ns : List Str) (acc : List PyData), (∀ n ∈ ns, ∃ t, look A n = some t) → acc.length + ns.length ≤ 1000 → Q (acc ++ (goneL A ns).map goneD) → compR i (testG j i) (dOp gDGet (dVar j) (dVar i)) (δ.set i none) Q (sds ns) acc
  | [], acc, _, _, q => by
    have q : Q acc := by simpa [goneL] using q
    exact q
  | n :: ns, acc, hn, hl, q => by
    rw [List.length_cons] at hl
    obtain ⟨t, ht⟩ := hn n (List.mem_cons_self ..)
    have e1 : ((δ.set i none).set i (some (.str n)))[j]? = some (some (atD A)) := by
      rw [List.getElem?_set_ne hij]; exact hj
    have e2 : ((δ.set i none).set i (some (.str n)))[i]? = some (some (.str n)) := by
      rw [List.getElem?_set_self (by rw [List.length_set]; exact hi)]
    have rec_ := compR_gone hj hij hi ns (Q := Q)
    refine dVar_at e1 (dVar_at e2 (gDGet_kv ht ?_))
    have stay : gone1 A n = [] → compR i (testG j i) (dOp gDGet (dVar j) (dVar i)) (δ.set i none) Q (sds ns) acc := fun e => rec_ acc (fun x hx => hn x (List.mem_cons_of_mem _ hx)) (by omega) (by
      simpa [goneL, e] using q)
    cases t with
    | gone a b =>
      show (if decide (("gone" : Str) = "gone") = true then dOp gDGet (dVar j) (dVar i) ((δ.set i none).set i (some (.str n))) (fun y => acc.length < 1000 ∧ compR i (testG j i) (dOp gDGet (dVar j) (dVar i)) (δ.set i none) Q (sds ns) (acc ++ [y])) else compR i (testG j i) (dOp gDGet (dVar j) (dVar i)) (δ.set i none) Q (sds ns) acc)
      rw [if_pos (decide_eq_true rfl)]
      refine dVar_at e1 (dVar_at e2 (gDGet_kv ht ⟨by omega, ?_⟩))
      refine rec_ _ (fun x hx => hn x (List.mem_cons_of_mem _ hx)) (by simp; omega) ?_
      have e : gone1 A n = [(a, b)] := by unfold gone1; rw [ht]
      rw [List.append_assoc]
      simpa [goneL, e, goneD] using q
    | _ => exact stay (by unfold gone1; rw [ht])
/-- the first of those that are gone, by the rank of the thing that failed -/
def firstG (R : Str → Int) : Str × Str → List (Str × Str) → Str × Str
  | f, [] => f
  | f, o :: l => firstG R (if R o.1 < R f.1 then o else f) l
theorem atI_zero {x : PyData} {l : List PyData} : atI (x :: l) 0 = some x := by
  unfold atI ixN
  simp
abbrev rankD (R : List (Str × Int)) : PyData := kvD PyData.int R
abbrev firstB (i fs rk : Nat) : TDS := dIf (dCmpT (cInt fun i j => decide (i < j)) (dOp gDGet (dVar rk) (dOp gIx (dVar i) (dC (.int 1)))) (dOp gDGet (dVar rk) (dOp gIx (dVar fs) (dC (.int 1))))) (dSet fs (dVar i)) dSkip
theorem forR_first {R : List (Str × Int)} {g : Str → Int} {i fs rk : Nat} {E : DE} {n : Dn → Prop} (h1 : i ≠ fs) (h2 : i ≠ rk) (h3 : fs ≠ rk) (hn : ∀ δ, n δ → δ[rk]? = some (some (rankD R)) ∧ fs < δ.length ∧ i < δ.length) (hi : ∀ δ d, n δ → n (δ.set i (some d))) (hf : ∀ δ d, n δ → n (δ.set fs (some d))) :
    ∀ (l : List (Str × Str)) (f : Str × Str) (δ : Dn), n δ → δ[fs]? = some (some (goneD f)) → look R f.1 = some (g f.1) → (∀ x ∈ l, look R x.1 = some (g x.1)) → (∀ δ', n δ' → δ'[fs]? = some (some (goneD (firstG g f l))) → E.nx δ') → forR i (firstB i fs rk) E (l.map goneD) δ
  | [], f, δ, nd, hd, _, _, he => he δ nd hd
  | o :: l, f, δ, nd, hd, hr, hl, he => by
    have n1 := hi δ (goneD o) nd
    obtain ⟨r1, r2, r3⟩ := hn _ n1
    have e1 : (δ.set i (some (goneD o)))[i]? = some (some (goneD o)) := by
      rw [List.getElem?_set_self (hn _ nd).2.2]
    have e2 : (δ.set i (some (goneD o)))[fs]? = some (some (goneD f)) := by
      rw [List.getElem?_set_ne h1]; exact hd
    have ho := hl o (List.mem_cons_self ..)
    refine dVar_at r1 (dVar_at e1 ?_)
    show gDGet (rankD R) (.str o.1) _
    refine gDGet_kv ho (dVar_at r1 (dVar_at e2 ?_))
    show gDGet (rankD R) (.str f.1) _
    refine gDGet_kv hr ?_
    show if decide (g o.1 < g f.1) = true then _ else _
    unfold firstG at he
    by_cases q : g o.1 < g f.1
    · rw [if_pos (decide_eq_true q)]
      rw [if_pos q] at he
      refine dVar_at e1 ?_
      exact forR_first h1 h2 h3 hn hi hf l o _ (hf _ _ n1) (by rw [List.getElem?_set_self r2]) ho (fun x hx => hl x (List.mem_cons_of_mem _ hx)) he
    · rw [if_neg (by simpa using q)]
      rw [if_neg q] at he
      exact forR_first h1 h2 h3 hn hi hf l f _ n1 e2 hr (fun x hx => hl x (List.mem_cons_of_mem _ hx)) he
/-- what a thing tells, by what its grounds have told -/
def Tells (A : At) (g : Str → Int) (n : Str) (m : Mk) (t : Tl) : Prop := match goneL A m.gr with
  | [] => ∃ r, Res (look A) m r ∧ SzM r ∧ t = match made r with
    | .ok t => t
    | .fails w => .gone n w
  | f :: l => t = .gone (firstG g f (f :: l)).1 (firstG g f (f :: l)).2
def c_telling_of : Ct := fun ds Q => ∃ n m A R g t, ds = [.str n, mkD m, atD A, rankD R] ∧ (∀ x ∈ m.gr, ∃ t, look A x = some t) ∧ (∀ x ∈ goneL A m.gr, look R x.1 = some (g x.1)) ∧ Tells A g n m t ∧ Q (tlD t)
theorem rd_telling_of (ds : List PyData) (Q : PyData → Prop) (hl : ds.length = 4) (h : c_telling_of ds Q) : t_telling_of c_made_of c_grounds { nx := fun _ => Q .none, rt := Q } (startD 8 ds) := by
  obtain ⟨n, m, A, R, g, t, rfl, hA, hR, hT, hQ⟩ := h
  unfold t_telling_of
  refine seqSetV (d := .list ((goneL A m.gr).map goneD)) (fun P p => ?_) ?_
  · refine ⟨m, rfl, ?_⟩
    exact compR_gone (A := A) (i := 6) (j := 2) (δ := [some (.str n), some (mkD m), some (atD A), some (rankD R), none, none, none, none]) rfl (by decide) (by show 6 < 8; decide) m.gr [] hA (by have := gr_len m; simp; omega) p
  walk_at "nrm"
  unfold Tells at hT
  cases e : goneL A m.gr with
  | nil =>
    rw [e] at hT
    obtain ⟨r, h1, h2, rfl⟩ := hT
    refine seqIfT (fun P h => ?_) ?_
    · exact h
    refine ⟨m, A, r, rfl, h1, h2, ?_⟩
    cases er : made r with
    | ok t =>
      rw [er] at hQ
      cases t <;> first
        | exact hQ
        | (refine seqIfF (fun P h => h) (seqSkip ?_); exact hQ)
    | fails w =>
      rw [er] at hQ
      exact hQ
  | cons f l =>
    rw [e] at hT hR
    subst hT
    refine seqIfF (fun P h => ?_) (seqSkip ?_)
    · show P (decide (((((f :: l).map goneD).length : Nat) : Int) = 0))
      rw [decide_eq_false (by simp; omega)]
      exact h
    refine seqSetV (d := goneD f) (fun P p => ?_) ?_
    · show optK (atI (goneD f :: l.map goneD) 0) P
      rw [atI_zero]
      exact p
    walk_at "nrm"
    refine forR_first (g := g) (i := 6) (fs := 5) (rk := 3) (n := fun δ => ∃ a b, δ = [some (.str n), some (mkD m), some (atD A), some (rankD R), some (.list ((f :: l).map goneD)), a, b, none]) (by decide) (by decide) (by decide) ?_ ?_ ?_ (f :: l) f _ ⟨_, _, rfl⟩ rfl (hR f (List.mem_cons_self ..)) hR ?_
    · rintro δ ⟨a, b, rfl⟩; exact ⟨rfl, by show 5 < 8; decide, by show 6 < 8; decide⟩
    · rintro δ d ⟨a, b, rfl⟩; exact ⟨_, _, rfl⟩
    · rintro δ d ⟨a, b, rfl⟩; exact ⟨_, _, rfl⟩
    · rintro δ ⟨a, b, rfl⟩ q
      refine dVar_at q ?_
      exact hQ
end Mb
set_option Elab.async false
set_option linter.all false
set_option maxRecDepth 100000
set_option maxHeartbeats 1000000
namespace Mb
open PySem PySem.Spec PyProof.Rows L2
local macro_rules | `(tactic| walk_at "nrm") => `(tactic| try dsimp only [startD, setAll, gSub, gAdd, gNeg, List.map, List.length, List.replicate, HAppend.hAppend, Append.append, List.append, List.set, Nat.reduceAdd, Nat.reduceSub])
/-! ### a comprehension, item by item -/
inductive All2 {α β : Type} (R : α → β → Prop) : List α → List β → Prop
  | nil : All2 R [] []
  | cons {a b as bs} : R a b → All2 R as bs → All2 R (a :: as) (b :: bs)
theorem compR_all {i : Nat} {te : TD} {δ : Dn} {Q : List PyData → Prop} : ∀ {ds es : List PyData} {acc : List PyData}, All2 (fun d e => ∀ P : PyData → Prop, P e → te (δ.set i (some d)) P) ds es → acc.length + ds.length ≤ 1000 → Q (acc ++ es) → compR i dYes te δ Q ds acc
  | _, _, acc, .nil, _, q => by
    rw [List.append_nil] at q
    exact q
  | d :: ds, e :: es, acc, .cons h t, hl, q => by
    rw [List.length_cons] at hl
    show (if true = true then te (δ.set i (some d)) (fun y => acc.length < 1000 ∧ compR i dYes te δ Q ds (acc ++ [y])) else compR i dYes te δ Q ds acc)
    refine iteT (h _ ⟨by omega, ?_⟩)
    refine compR_all t (by simp; omega) ?_
    rw [List.append_assoc]
    exact q
theorem All2.length {α β : Type} {R : α → β → Prop} {as : List α} {bs : List β} (h : All2 R as bs) : as.length = bs.length := by
  induction h with
  | nil => rfl
  | cons _ _ ih => rw [List.length_cons, List.length_cons, ih]
theorem All2.map {α β γ δ : Type} {R : α → β → Prop} {S : γ → δ → Prop} {f : α → γ} {g : β → δ} (w : ∀ a b, R a b → S (f a) (g b)) : ∀ {as : List α} {bs : List β}, All2 R as bs → All2 S (as.map f) (bs.map g)
  | _, _, .nil => .nil
  | _, _, .cons h t => .cons (w _ _ h) (All2.map w t)
theorem All2.same {α : Type} {R : α → α → Prop} (w : ∀ a, R a a) : ∀ as : List α, All2 R as as
  | [] => .nil
  | a :: as => .cons (w a) (All2.same w as)
/-- the tellings of a making's grounds -/
def rts : Rm → List Tl
  | .free _ _ => []
  | .middle p q | .share p q _ | .next p q | .turn p q | .line p q | .circle p q => [.pt p, .pt q]
  | .foot p l | .mirror p l | .along p l | .upright p l => [.pt p, .line l]
  | .meet l m | .beside l m | .square l m => [.line l, .line m]
  | .cutL l C _ => [.line l, .circle C]
  | .cutC A B _ => [.circle A, .circle B]
  | .inline p q r => [.pt p, .pt q, .pt r]
  | .round p q r s | .alike p q r s => [.pt p, .pt q, .pt r, .pt s]
theorem Res.all {f : Str → Option Tl} {m : Mk} {r : Rm} (h : Res f m r) : All2 (fun n t => f n = some t) m.gr (rts r) := by
  cases h <;> first
    | exact .nil
    | (rename_i h1 h2; exact .cons h1 (.cons h2 .nil))
    | (rename_i h1 h2 h3; exact .cons h1 (.cons h2 (.cons h3 .nil)))
    | (rename_i h1 h2 h3 h4; exact .cons h1 (.cons h2 (.cons h3 (.cons h4 .nil))))
def restD (t : Tl) : PyData := .tuple t.rest
theorem comp_each {A : At} {i j : Nat} {δ : Dn} {Q : List PyData → Prop} (hj : (δ.set i none)[j]? = some (some (atD A))) (hij : i ≠ j) (hi : i < δ.length) {m : Mk} {r : Rm} (h : Res (look A) m r) (q : Q ((rts r).map tlD)) : compR i dYes (dOp gDGet (dVar j) (dVar i)) (δ.set i none) Q (sds m.gr) [] := by
  refine compR_all (es := (rts r).map tlD) (All2.map (fun n t e P p => ?_) h.all) (by have := gr_len m; simp [sds]; omega) q
  refine dVar_at (d := atD A) (by rw [List.getElem?_set_ne hij]; exact hj) (dVar_at (d := .str n) (by rw [List.getElem?_set_self (by rw [List.length_set]; exact hi)]) ?_)
  exact gDGet_kv e p
theorem comp_bare {i : Nat} {δ : Dn} {Q : List PyData → Prop} (hi : i < δ.length) {ts : List Tl} (hl : ts.length ≤ 9) (q : Q (ts.map restD)) : compR i dYes (dSl (dVar i) (dP (dC (.int 1))) dNoP) (δ.set i none) Q (ts.map tlD) [] := by
  refine compR_all (es := ts.map restD) (All2.map (fun t u e P p => ?_) (All2.same (R := fun a b => a = b) (fun _ => rfl) ts)) (by simp; omega) q
  subst e
  refine dVar_at (d := tlD t) (by rw [List.getElem?_set_self (by rw [List.length_set]; exact hi)]) ?_
  have e : cutD (.str t.word :: t.rest) (some 1) none = t.rest := by cases t <;> rfl
  refine ⟨nw _ _, ?_⟩
  rw [e]
  exact p
theorem rts_len (r : Rm) : (rts r).length ≤ 9 := by cases r <;> simp [rts]
/-- making by making: each and bare -/
theorem comp_bareA {A : At} {i j : Nat} {δ : Dn} {Q : List PyData → Prop} (hj : (δ.set i none)[j]? = some (some (atD A))) (hij : i ≠ j) (hi : i < δ.length) {m : Mk} {r : Rm} (h : Res (look A) m r) (q : Q ((rts r).map restD)) : compR i dYes (dSl (dOp gDGet (dVar j) (dVar i)) (dP (dC (.int 1))) dNoP) (δ.set i none) Q (sds m.gr) [] := by
  refine compR_all (es := (rts r).map restD) (All2.map (fun n t e P p => ?_) h.all) (by have := gr_len m; simp [sds]; omega) q
  refine dVar_at (d := atD A) (by rw [List.getElem?_set_ne hij]; exact hj) (dVar_at (d := .str n) (by rw [List.getElem?_set_self (by rw [List.length_set]; exact hi)]) ?_)
  refine gDGet_kv e ?_
  have e : cutD (.str t.word :: t.rest) (some 1) none = t.rest := by cases t <;> rfl
  refine ⟨nw _ _, ?_⟩
  rw [e]
  exact p
def F_PLACES (z : Str) : Option Ct := if z = "middle" then some c_middle else if z = "next" then some c_beyond else if z = "turn" then some c_turned else if z = "foot" then some c_foot else if z = "mirror" then some c_mirror else none
def F_LINES (z : Str) : Option Ct := if z = "line" then some c_through else if z = "along" then some c_along else if z = "upright" then some c_upright else none
theorem rd_made_of (ds : List PyData) (Q : PyData → Prop) (hl : ds.length = 2) (h : c_made_of ds Q) : t_made_of c_judged c_shown_or c_about c_cut_made c_meet c_share c_grounds F_LINES F_PLACES { nx := fun _ => Q .none, rt := Q } (startD 8 ds) := by
  obtain ⟨m, A, r, rfl, hr, sz, hQ⟩ := h
  have each : ∀ (w : PyData) (P : PyData → Prop), P (.list ((rts r).map tlD)) → dLcL 6 (dCall 1 c_grounds (dCons (dVar 0) dNil)) dYes (dOp gDGet (dVar 1) (dVar 6)) [some (mkD m), some (atD A), some w, none, none, none, none, none] P :=
    fun w P p => ⟨m, rfl, comp_each (δ := [some (mkD m), some (atD A), some w, none, none, none, none, none]) (i := 6) (j := 1) rfl (by decide) (by show 6 < 8; decide) hr p⟩
  have bare : ∀ (w : PyData) (P : PyData → Prop), P (.list ((rts r).map restD)) → dLcL 7 (dVar 3) dYes (dSl (dVar 7) (dP (dC (.int 1))) dNoP) [some (mkD m), some (atD A), some w, some (.list ((rts r).map tlD)), none, none, none, none] P :=
    fun w P p => comp_bare (δ := [some (mkD m), some (atD A), some w, some (.list ((rts r).map tlD)), none, none, none, none]) (i := 7) (by show 7 < 8; decide) (rts_len r) p
  have judge : ∀ (w : Str) (b : Bool), made r = keptOr b → (∀ P : PyData → Prop, P (.bool b) → c_judged [.str w, .list ((rts r).map restD)] P) → (dSeq (dIf (dVal (dCall 2 c_judged (dCons (dVar 2) (dCons (dVar 4) dNil)))) (dRet (dTup (dCons (dC (.str "kept")) dNil))) dSkip)
    (dRet (dTup (dCons (dC (.str "broken")) dNil)))) { nx := fun _ => Q .none, rt := Q } [some (mkD m), some (atD A), some (.str w), some (.list ((rts r).map tlD)), some (.list ((rts r).map restD)), none, none, none] := fun w b e hj => by
    rw [e] at hQ
    cases b with
    | true =>
      refine seqIfT (fun P h => hj (fun d => boolK d P) h) ?_
      exact hQ
    | false =>
      refine seqIfF (fun P h => hj (fun d => boolK d P) h) (seqSkip ?_)
      exact hQ
  have mrOk : ∀ {t : Tl}, made r = .ok t → Q (tlD t) := fun e => by rw [e] at hQ; exact hQ
  have mrNo : ∀ {t : Str}, made r = .fails t → Q (.tuple [.str "fails", .str t]) := fun e => by rw [e] at hQ; exact hQ
  unfold t_made_of
  cases hr with
  | free => exact hQ
  | middle h1 h2 =>
    rename_i P Q'
    refine seqSetV (d := .str "middle") (fun P h => h) ?_
    refine seqIfF (fun P h => h) (seqSkip ?_)
    refine seqSetV (d := .list ((rts _).map tlD)) (fun P g => each (.str "middle") P g) ?_
    refine seqSetV (d := .list ((rts _).map restD)) (fun P g => bare (.str "middle") P g) ?_
    refine seqIfT (fun P h => h) ?_
    exact ⟨by show 5 < 8; decide, P, Q', rfl, sz, ⟨⟨by simp, by simp, by simp⟩, hQ⟩⟩
  | next h1 h2 =>
    rename_i P Q'
    refine seqSetV (d := .str "next") (fun P h => h) ?_
    refine seqIfF (fun P h => h) (seqSkip ?_)
    refine seqSetV (d := .list ((rts _).map tlD)) (fun P g => each (.str "next") P g) ?_
    refine seqSetV (d := .list ((rts _).map restD)) (fun P g => bare (.str "next") P g) ?_
    refine seqIfT (fun P h => h) ?_
    exact ⟨by show 5 < 8; decide, P, Q', rfl, sz, ⟨⟨by simp, by simp, by simp⟩, hQ⟩⟩
  | turn h1 h2 =>
    rename_i P Q'
    refine seqSetV (d := .str "turn") (fun P h => h) ?_
    refine seqIfF (fun P h => h) (seqSkip ?_)
    refine seqSetV (d := .list ((rts _).map tlD)) (fun P g => each (.str "turn") P g) ?_
    refine seqSetV (d := .list ((rts _).map restD)) (fun P g => bare (.str "turn") P g) ?_
    refine seqIfT (fun P h => h) ?_
    exact ⟨by show 5 < 8; decide, P, Q', rfl, sz, ⟨⟨by simp, by simp, by simp⟩, hQ⟩⟩
  | foot h1 h2 =>
    rename_i P L
    refine seqSetV (d := .str "foot") (fun P h => h) ?_
    refine seqIfF (fun P h => h) (seqSkip ?_)
    refine seqSetV (d := .list ((rts _).map tlD)) (fun P g => each (.str "foot") P g) ?_
    refine seqSetV (d := .list ((rts _).map restD)) (fun P g => bare (.str "foot") P g) ?_
    refine seqIfT (fun P h => h) ?_
    exact ⟨by show 5 < 8; decide, P, L, rfl, sz.1, sz.2, ⟨⟨by simp, by simp, by simp⟩, hQ⟩⟩
  | mirror h1 h2 =>
    rename_i P L
    refine seqSetV (d := .str "mirror") (fun P h => h) ?_
    refine seqIfF (fun P h => h) (seqSkip ?_)
    refine seqSetV (d := .list ((rts _).map tlD)) (fun P g => each (.str "mirror") P g) ?_
    refine seqSetV (d := .list ((rts _).map restD)) (fun P g => bare (.str "mirror") P g) ?_
    refine seqIfT (fun P h => h) ?_
    exact ⟨by show 5 < 8; decide, P, L, rfl, sz.1, sz.2, ⟨⟨by simp, by simp, by simp⟩, hQ⟩⟩
  | share h1 h2 =>
    rename_i P Q' t
    refine seqSetV (d := .str "share") (fun P h => h) ?_
    refine seqIfF (fun P h => h) (seqSkip ?_)
    refine seqSetV (d := .list ((rts _).map tlD)) (fun P g => each (.str "share") P g) ?_
    refine seqSetV (d := .list ((rts _).map restD)) (fun P g => bare (.str "share") P g) ?_
    refine seqIfF (fun P h => h) (seqSkip ?_)
    refine seqIfT (fun P h => h) ?_
    exact ⟨P, Q', t, rfl, sz, ⟨⟨by simp, by simp, by simp⟩, hQ⟩⟩
  | meet h1 h2 =>
    rename_i L M
    refine seqSetV (d := .str "meet") (fun P h => h) ?_
    refine seqIfF (fun P h => h) (seqSkip ?_)
    refine seqSetV (d := .list ((rts _).map tlD)) (fun P g => each (.str "meet") P g) ?_
    refine seqSetV (d := .list ((rts _).map restD)) (fun P g => bare (.str "meet") P g) ?_
    refine seqIfF (fun P h => h) (seqSkip ?_)
    refine seqIfF (fun P h => h) (seqSkip ?_)
    refine seqIfT (fun P h => h) ?_
    exact ⟨L, M, rfl, sz, fun hp => ⟨"at", "parallel", .inl ⟨rfl, mrNo (if_pos hp)⟩⟩, fun hp => ⟨"at", "parallel", .inr ⟨_, rfl, by simp, by simp, mrOk (if_neg hp)⟩⟩⟩
  | cutL h1 h2 =>
    rename_i k L C
    refine seqSetV (d := .str "cut") (fun P h => h) ?_
    refine seqIfF (fun P h => h) (seqSkip ?_)
    refine seqSetV (d := .list ((rts _).map tlD)) (fun P g => each (.str "cut") P g) ?_
    refine seqSetV (d := .list ((rts _).map restD)) (fun P g => bare (.str "cut") P g) ?_
    refine seqIfF (fun P h => h) (seqSkip ?_)
    refine seqIfF (fun P h => h) (seqSkip ?_)
    refine seqIfF (fun P h => h) (seqSkip ?_)
    refine seqIfT (fun P h => h) ?_
    exact .inl ⟨L, C, k, rfl, sz, hQ⟩
  | cutC h1 h2 =>
    rename_i k L C
    refine seqSetV (d := .str "cut") (fun P h => h) ?_
    refine seqIfF (fun P h => h) (seqSkip ?_)
    refine seqSetV (d := .list ((rts _).map tlD)) (fun P g => each (.str "cut") P g) ?_
    refine seqSetV (d := .list ((rts _).map restD)) (fun P g => bare (.str "cut") P g) ?_
    refine seqIfF (fun P h => h) (seqSkip ?_)
    refine seqIfF (fun P h => h) (seqSkip ?_)
    refine seqIfF (fun P h => h) (seqSkip ?_)
    refine seqIfT (fun P h => h) ?_
    exact .inr ⟨L, C, k, rfl, sz, hQ⟩
  | line h1 h2 =>
    rename_i P Q'
    refine seqSetV (d := .str "line") (fun P h => h) ?_
    refine seqIfF (fun P h => h) (seqSkip ?_)
    refine seqSetV (d := .list ((rts _).map tlD)) (fun P g => each (.str "line") P g) ?_
    refine seqSetV (d := .list ((rts _).map restD)) (fun P g => bare (.str "line") P g) ?_
    refine seqIfF (fun P h => h) (seqSkip ?_)
    refine seqIfF (fun P h => h) (seqSkip ?_)
    refine seqIfF (fun P h => h) (seqSkip ?_)
    refine seqIfF (fun P h => h) (seqSkip ?_)
    refine seqIfT (fun P h => h) ?_
    exact ⟨by show 5 < 8; decide, P, Q', rfl, sz, fun hp => ⟨"line", "same", .inl ⟨rfl, mrNo (if_pos hp)⟩⟩, fun hp => ⟨"line", "same", .inr ⟨_, rfl, by simp, by simp, mrOk (if_neg hp)⟩⟩⟩
  | along h1 h2 =>
    rename_i P L
    refine seqSetV (d := .str "along") (fun P h => h) ?_
    refine seqIfF (fun P h => h) (seqSkip ?_)
    refine seqSetV (d := .list ((rts _).map tlD)) (fun P g => each (.str "along") P g) ?_
    refine seqSetV (d := .list ((rts _).map restD)) (fun P g => bare (.str "along") P g) ?_
    refine seqIfF (fun P h => h) (seqSkip ?_)
    refine seqIfF (fun P h => h) (seqSkip ?_)
    refine seqIfF (fun P h => h) (seqSkip ?_)
    refine seqIfF (fun P h => h) (seqSkip ?_)
    refine seqIfT (fun P h => h) ?_
    exact ⟨by show 5 < 8; decide, P, L, rfl, sz.1, sz.2, ⟨"line", "same", .inr ⟨_, rfl, by simp, by simp, hQ⟩⟩⟩
  | upright h1 h2 =>
    rename_i P L
    refine seqSetV (d := .str "upright") (fun P h => h) ?_
    refine seqIfF (fun P h => h) (seqSkip ?_)
    refine seqSetV (d := .list ((rts _).map tlD)) (fun P g => each (.str "upright") P g) ?_
    refine seqSetV (d := .list ((rts _).map restD)) (fun P g => bare (.str "upright") P g) ?_
    refine seqIfF (fun P h => h) (seqSkip ?_)
    refine seqIfF (fun P h => h) (seqSkip ?_)
    refine seqIfF (fun P h => h) (seqSkip ?_)
    refine seqIfF (fun P h => h) (seqSkip ?_)
    refine seqIfT (fun P h => h) ?_
    exact ⟨by show 5 < 8; decide, P, L, rfl, sz.1, sz.2, ⟨"line", "same", .inr ⟨_, rfl, by simp, by simp, hQ⟩⟩⟩
  | circle h1 h2 =>
    rename_i P Q'
    refine seqSetV (d := .str "circle") (fun P h => h) ?_
    refine seqIfF (fun P h => h) (seqSkip ?_)
    refine seqSetV (d := .list ((rts _).map tlD)) (fun P g => each (.str "circle") P g) ?_
    refine seqSetV (d := .list ((rts _).map restD)) (fun P g => bare (.str "circle") P g) ?_
    refine seqIfF (fun P h => h) (seqSkip ?_)
    refine seqIfF (fun P h => h) (seqSkip ?_)
    refine seqIfF (fun P h => h) (seqSkip ?_)
    refine seqIfF (fun P h => h) (seqSkip ?_)
    refine seqIfF (fun P h => h) (seqSkip ?_)
    refine seqIfT (fun P h => h) ?_
    exact ⟨P, Q', rfl, sz, fun hp => ⟨"circle", "same", .inl ⟨rfl, mrNo (if_pos hp)⟩⟩, fun hp => ⟨"circle", "same", .inr ⟨_, rfl, by simp, by simp, mrOk (if_neg hp)⟩⟩⟩
  | inline h1 h2 h3 =>
    rename_i P Q' R
    refine seqSetV (d := .str "inline") (fun P h => h) ?_
    refine seqIfF (fun P h => h) (seqSkip ?_)
    refine seqSetV (d := .list ((rts _).map tlD)) (fun P g => each (.str "inline") P g) ?_
    refine seqSetV (d := .list ((rts _).map restD)) (fun P g => bare (.str "inline") P g) ?_
    refine seqIfF (fun P h => h) (seqSkip ?_)
    refine seqIfF (fun P h => h) (seqSkip ?_)
    refine seqIfF (fun P h => h) (seqSkip ?_)
    refine seqIfF (fun P h => h) (seqSkip ?_)
    refine seqIfF (fun P h => h) (seqSkip ?_)
    refine seqIfF (fun P h => h) (seqSkip ?_)
    exact judge "inline" _ rfl fun P' p => .inl ⟨P, Q', R, rfl, sz, p⟩
  | round h1 h2 h3 h4 =>
    rename_i P Q' R S
    refine seqSetV (d := .str "round") (fun P h => h) ?_
    refine seqIfF (fun P h => h) (seqSkip ?_)
    refine seqSetV (d := .list ((rts _).map tlD)) (fun P g => each (.str "round") P g) ?_
    refine seqSetV (d := .list ((rts _).map restD)) (fun P g => bare (.str "round") P g) ?_
    refine seqIfF (fun P h => h) (seqSkip ?_)
    refine seqIfF (fun P h => h) (seqSkip ?_)
    refine seqIfF (fun P h => h) (seqSkip ?_)
    refine seqIfF (fun P h => h) (seqSkip ?_)
    refine seqIfF (fun P h => h) (seqSkip ?_)
    refine seqIfF (fun P h => h) (seqSkip ?_)
    exact judge "round" _ rfl fun P' p => .inr (.inl ⟨P, Q', R, S, rfl, sz, p⟩)
  | alike h1 h2 h3 h4 =>
    rename_i P Q' R S
    refine seqSetV (d := .str "alike") (fun P h => h) ?_
    refine seqIfF (fun P h => h) (seqSkip ?_)
    refine seqSetV (d := .list ((rts _).map tlD)) (fun P g => each (.str "alike") P g) ?_
    refine seqSetV (d := .list ((rts _).map restD)) (fun P g => bare (.str "alike") P g) ?_
    refine seqIfF (fun P h => h) (seqSkip ?_)
    refine seqIfF (fun P h => h) (seqSkip ?_)
    refine seqIfF (fun P h => h) (seqSkip ?_)
    refine seqIfF (fun P h => h) (seqSkip ?_)
    refine seqIfF (fun P h => h) (seqSkip ?_)
    refine seqIfF (fun P h => h) (seqSkip ?_)
    exact judge "alike" _ rfl fun P' p => .inr (.inr (.inl ⟨P, Q', R, S, rfl, sz, p⟩))
  | beside h1 h2 =>
    rename_i L M
    refine seqSetV (d := .str "beside") (fun P h => h) ?_
    refine seqIfF (fun P h => h) (seqSkip ?_)
    refine seqSetV (d := .list ((rts _).map tlD)) (fun P g => each (.str "beside") P g) ?_
    refine seqSetV (d := .list ((rts _).map restD)) (fun P g => bare (.str "beside") P g) ?_
    refine seqIfF (fun P h => h) (seqSkip ?_)
    refine seqIfF (fun P h => h) (seqSkip ?_)
    refine seqIfF (fun P h => h) (seqSkip ?_)
    refine seqIfF (fun P h => h) (seqSkip ?_)
    refine seqIfF (fun P h => h) (seqSkip ?_)
    refine seqIfF (fun P h => h) (seqSkip ?_)
    exact judge "beside" _ rfl fun P' p => .inr (.inr (.inr (.inl ⟨L, M, rfl, sz, p⟩)))
  | square h1 h2 =>
    rename_i L M
    refine seqSetV (d := .str "square") (fun P h => h) ?_
    refine seqIfF (fun P h => h) (seqSkip ?_)
    refine seqSetV (d := .list ((rts _).map tlD)) (fun P g => each (.str "square") P g) ?_
    refine seqSetV (d := .list ((rts _).map restD)) (fun P g => bare (.str "square") P g) ?_
    refine seqIfF (fun P h => h) (seqSkip ?_)
    refine seqIfF (fun P h => h) (seqSkip ?_)
    refine seqIfF (fun P h => h) (seqSkip ?_)
    refine seqIfF (fun P h => h) (seqSkip ?_)
    refine seqIfF (fun P h => h) (seqSkip ?_)
    refine seqIfF (fun P h => h) (seqSkip ?_)
    exact judge "square" _ rfl fun P' p => .inr (.inr (.inr (.inr ⟨L, M, rfl, sz, p⟩)))
end Mb
set_option Elab.async false
set_option linter.all false
set_option maxRecDepth 100000
set_option maxHeartbeats 1000000
namespace Mb
open PySem PySem.Spec PyProof.Rows L2
local macro_rules | `(tactic| walk_at "nrm") => `(tactic| try dsimp only [startD, setAll, gSub, gAdd, gNeg, List.map, List.length, List.replicate, HAppend.hAppend, Append.append, List.append, List.set, Nat.reduceAdd, Nat.reduceSub])
/-! ### the law's own fractions: not in lowest terms -/
theorem rd_law_gcd (ds : List PyData) (Q : PyData → Prop) (hl : ds.length = 2) (h : c_divisor ds Q) : t_law_gcd { nx := fun _ => Q .none, rt := Q } (startD 2 ds) := rd_divisor ds Q hl h
theorem rd_law_low (ds : List PyData) (Q : PyData → Prop) (hl : ds.length = 2) (h : c_fraction ds Q) : t_law_low c_divisor { nx := fun _ => Q .none, rt := Q } (startD 3 ds) := by
  obtain ⟨a, b, rfl, hb, ba, bb, hQ⟩ := h
  unfold t_law_low
  by_cases h0 : b < 0
  · refine seqIfT (fun P h => (show P (decide (b < 0)) by rw [decide_eq_true h0]; exact h)) ?_
    refine ⟨-a, -b, rfl, ?_⟩
    obtain ⟨e, s0⟩ := frac_val (a := -a) (b := -b) (s := ((Int.gcd (-a) (-b) : Nat) : Int)) (by omega) (by rw [if_neg (by omega)])
    have e2 : ((-a : Int) : Rat) / ((-b : Int) : Rat) = (a : Rat) / b := by
      rw [Rat.intCast_neg, Rat.intCast_neg]
      have n2 : (b : Rat) ≠ 0 := fun z => hb (Rat.intCast_eq_zero_iff.mp z)
      generalize (a : Rat) = x at *
      generalize (b : Rat) = y at *
      grind
    rw [e2] at e
    rw [e] at hQ
    exact ⟨ba.neg.divX (by decide) s0, bb.neg.divX (by decide) s0, hQ⟩
  · refine seqIfF (fun P h => (show P (decide (b < 0)) by rw [decide_eq_false h0]; exact h)) (seqSkip ?_)
    refine ⟨a, b, rfl, ?_⟩
    obtain ⟨e, s0⟩ := frac_val (a := a) (b := b) (s := ((Int.gcd a b : Nat) : Int)) hb (by rw [if_neg h0])
    rw [e] at hQ
    exact ⟨ba.divX (by decide) s0, bb.divX (by decide) s0, hQ⟩
/-- d stands for q -/
structure UF (n : Nat) (q : Rat) (d : PyData) : Prop where
  ex : ∃ a b : Int, d = .tuple [.int a, .int b] ∧ 0 < b ∧ (a : Rat) = q * b ∧ Bz n a ∧ Bz n b
theorem UF.mono {m n : Nat} {q : Rat} {d : PyData} (h : UF m q d) (l : m ≤ n) : UF n q d :=
  let ⟨a, b, h1, h2, h3, h4, h5⟩ := h.ex; ⟨a, b, h1, h2, h3, h4.mono l, h5.mono l⟩
theorem UF.fr {n : Nat} {q : Rat} (h : Bd n q) : UF n q (fr q) := by
  refine ⟨q.num, (q.den : Int), rfl, den_pos' q, ?_, h.1, h.2⟩
  have h1 := nd q
  have d1 := den_neR q
  generalize (q.num : Rat) = a at *
  generalize ((q.den : Int) : Rat) = c at *
  rw [h1]
  grind
theorem UF.int {n : Nat} {i : Int} (h : Bz n i) (hn : 0 < n) : UF n (i : Rat) (.tuple [.int i, .int 1]) := ⟨i, 1, rfl, by decide, by rw [Rat.intCast_one, Rat.mul_one], h, Bz.one hn⟩
theorem posR {b : Int} (h : 0 < b) : (b : Rat) ≠ 0 := fun z => by have := Rat.intCast_eq_zero_iff.mp z; omega
theorem UF.val {n : Nat} {q : Rat} {a b : Int} (h : UF n q (.tuple [.int a, .int b])) : 0 < b ∧ q = (a : Rat) / b ∧ Bz n a ∧ Bz n b ∧ (a : Rat) = q * b := by
  obtain ⟨x, y, e, h1, h2, h3, h4⟩ := h.ex
  simp only [PyData.tuple.injEq, List.cons.injEq, PyData.int.injEq, and_true] at e
  obtain ⟨rfl, rfl⟩ := e
  refine ⟨h1, ?_, h3, h4, h2⟩
  have n2 := posR h1
  rw [h2]
  generalize ((b : Int) : Rat) = y at *
  grind
theorem UF.zero_iff {n : Nat} {q : Rat} {a b : Int} (h : UF n q (.tuple [.int a, .int b])) : decide (a = 0) = decide (q = 0) := by
  obtain ⟨h1, h2, _, _, h3⟩ := h.val
  rw [decide_eq_decide]
  constructor
  · intro z; rw [h2, z, Rat.div_def, Rat.intCast_zero, Rat.zero_mul]
  · intro z; rw [z, Rat.zero_mul] at h3; exact Rat.intCast_eq_zero_iff.mp h3
theorem UF.pos_iff {n : Nat} {q : Rat} {a b : Int} (h : UF n q (.tuple [.int a, .int b])) : decide (0 < a) = decide (0 < q) := by
  obtain ⟨h1, h2, _, _, h3⟩ := h.val
  have pb : (0 : Rat) < b := Rat.intCast_pos.mpr h1
  rw [decide_eq_decide]
  constructor
  · intro z
    have pa : (0 : Rat) < a := Rat.intCast_pos.mpr z
    refine Rat.not_le.mp fun hq => ?_
    have h4 := Rat.mul_nonneg (show (0 : Rat) ≤ -q by grind) (Rat.le_of_lt pb)
    rw [h3] at pa
    grind
  · intro z
    have := Rat.mul_pos z pb
    rw [← h3] at this
    exact Rat.intCast_pos.mp this
theorem UF.tup {n : Nat} {q : Rat} {d : PyData} (h : UF n q d) : ∃ a b : Int, d = .tuple [.int a, .int b] ∧ UF n q (.tuple [.int a, .int b]) :=
  let ⟨a, b, h1, h2⟩ := h.ex; ⟨a, b, h1, ⟨a, b, rfl, h2⟩⟩
def c_law_plus : Ct := fun ds Q => ∃ m n p q d e, ds = [d, e] ∧ UF m p d ∧ UF n q e ∧ m + n < 900000 ∧ ∀ z, UF (m + n + 1) (p + q) z → Q z
def c_law_less : Ct := fun ds Q => ∃ m n p q d e, ds = [d, e] ∧ UF m p d ∧ UF n q e ∧ m + n < 900000 ∧ ∀ z, UF (m + n + 1) (p - q) z → Q z
def c_law_times : Ct := fun ds Q => ∃ m n p q d e, ds = [d, e] ∧ UF m p d ∧ UF n q e ∧ m + n < 900000 ∧ ∀ z, UF (m + n) (p * q) z → Q z
def c_law_even : Ct := fun ds Q => ∃ m n p q d e, ds = [d, e] ∧ UF m p d ∧ UF n q e ∧ m + n < 900000 ∧ Q (.bool (decide (p = q)))
theorem rd_law_plus (ds : List PyData) (Q : PyData → Prop) (hl : ds.length = 2) (h : c_law_plus ds Q) : t_law_plus { nx := fun _ => Q .none, rt := Q } (startD 2 ds) := by
  obtain ⟨m, n, p, q, d, e, rfl, hd, he, hl, hQ⟩ := h
  obtain ⟨a, b, rfl, hd⟩ := hd.tup
  obtain ⟨x, y, rfl, he⟩ := he.tup
  obtain ⟨h1, _, h3, h4, h5⟩ := hd.val
  obtain ⟨g1, _, g3, g4, g5⟩ := he.val
  refine ⟨h3.mulW g4 (by omega), g3.mulW h4 (by omega), h4.mulW g4 (by omega), hQ _ ⟨_, _, rfl, Int.mul_pos h1 g1, ?_, (h3.mul g4).add (g3.mul h4) (by omega) (by omega), (h4.mul g4).mono (by omega)⟩⟩
  rw [castAdd, castMul, castMul, castMul, h5, g5]
  grind
theorem rd_law_less (ds : List PyData) (Q : PyData → Prop) (hl : ds.length = 2) (h : c_law_less ds Q) : t_law_less { nx := fun _ => Q .none, rt := Q } (startD 2 ds) := by
  obtain ⟨m, n, p, q, d, e, rfl, hd, he, hl, hQ⟩ := h
  obtain ⟨a, b, rfl, hd⟩ := hd.tup
  obtain ⟨x, y, rfl, he⟩ := he.tup
  obtain ⟨h1, _, h3, h4, h5⟩ := hd.val
  obtain ⟨g1, _, g3, g4, g5⟩ := he.val
  refine ⟨h3.mulW g4 (by omega), g3.mulW h4 (by omega), h4.mulW g4 (by omega), hQ _ ⟨_, _, rfl, Int.mul_pos h1 g1, ?_, (h3.mul g4).sub (g3.mul h4) (by omega) (by omega), (h4.mul g4).mono (by omega)⟩⟩
  rw [castSub, castMul, castMul, castMul, h5, g5]
  grind
theorem rd_law_times (ds : List PyData) (Q : PyData → Prop) (hl : ds.length = 2) (h : c_law_times ds Q) : t_law_times { nx := fun _ => Q .none, rt := Q } (startD 2 ds) := by
  obtain ⟨m, n, p, q, d, e, rfl, hd, he, hl, hQ⟩ := h
  obtain ⟨a, b, rfl, hd⟩ := hd.tup
  obtain ⟨x, y, rfl, he⟩ := he.tup
  obtain ⟨h1, _, h3, h4, h5⟩ := hd.val
  obtain ⟨g1, _, g3, g4, g5⟩ := he.val
  refine ⟨h3.mulW g3 (by omega), h4.mulW g4 (by omega), hQ _ ⟨_, _, rfl, Int.mul_pos h1 g1, ?_, h3.mul g3, h4.mul g4⟩⟩
  rw [castMul, castMul, h5, g5]
  grind
theorem rd_law_even (ds : List PyData) (Q : PyData → Prop) (hl : ds.length = 2) (h : c_law_even ds Q) : t_law_even { nx := fun _ => Q .none, rt := Q } (startD 2 ds) := by
  obtain ⟨m, n, p, q, d, e, rfl, hd, he, hl, hQ⟩ := h
  obtain ⟨a, b, rfl, hd⟩ := hd.tup
  obtain ⟨x, y, rfl, he⟩ := he.tup
  obtain ⟨h1, h2, h3, h4, h5⟩ := hd.val
  obtain ⟨g1, g2, g3, g4, g5⟩ := he.val
  refine ⟨h3.mulW g4 (by omega), g3.mulW h4 (by omega), ?_⟩
  have e : decide (a * y = x * b) = decide (p = q) := by
    rw [decide_eq_decide]
    have b0 := posR h1
    have y0 := posR g1
    constructor
    · intro z
      have z2 : (a : Rat) * y = x * b := by rw [← castMul, ← castMul, z]
      rw [h5, g5] at z2
      generalize (b : Rat) = B at *
      generalize (y : Rat) = Y at *
      grind
    · intro z
      refine Rat.intCast_inj.mp ?_
      rw [castMul, castMul, h5, g5, z]
      grind
  show Q (.bool (decide (a * y = x * b)))
  rw [e]
  exact hQ
/-- a place of such fractions -/
structure PF2 (n : Nat) (p : Pl) (D : PyData) : Prop where
  ex : ∃ d e, D = .tuple [d, e] ∧ UF n p.1 d ∧ UF n p.2 e
theorem PF2.pl {n : Nat} {p : Pl} (h : BP n p) : PF2 n p (pl p) := ⟨_, _, rfl, UF.fr h.x, UF.fr h.y⟩
def c_law_near : Ct := fun ds Q => ∃ m n p q D E, ds = [D, E] ∧ PF2 m p D ∧ PF2 n q E ∧ m + n < 200000 ∧ ∀ z, UF (4 * m + 4 * n + 5) (sqb p q) z → Q z
theorem rd_law_near (ds : List PyData) (Q : PyData → Prop) (hl : ds.length = 2) (h : c_law_near ds Q) : t_law_near c_law_plus c_law_times c_law_less { nx := fun _ => Q .none, rt := Q } (startD 4 ds) := by
  obtain ⟨m, n, p, q, D, E, rfl, hD, hE, hl, hQ⟩ := h
  obtain ⟨d1, d2, rfl, u1, u2⟩ := hD.ex
  obtain ⟨e1, e2, rfl, v1, v2⟩ := hE.ex
  refine ⟨_, _, _, _, _, _, rfl, u1, v1, by omega, fun x hx => ?_⟩
  refine ⟨_, _, _, _, _, _, rfl, u2, v2, by omega, fun y hy => ?_⟩
  refine ⟨_, _, _, _, _, _, rfl, hx, hx, by omega, fun xx hxx => ?_⟩
  refine ⟨_, _, _, _, _, _, rfl, hy, hy, by omega, fun yy hyy => ?_⟩
  exact ⟨_, _, _, _, _, _, rfl, hxx, hyy, by omega, fun z hz => hQ z (hz.mono (by omega))⟩
def offR (p : Pl) (l : Ln) : Rat := (l.a : Rat) * p.1 + (l.b : Rat) * p.2 - (l.c : Rat)
def c_law_off : Ct := fun ds Q => ∃ m n p l D, ds = [D, ln l] ∧ PF2 m p D ∧ BL n l ∧ 0 < n ∧ m + n < 200000 ∧ ∀ z, UF (2 * m + 3 * n + 2) (offR p l) z → Q z
theorem rd_law_off (ds : List PyData) (Q : PyData → Prop) (hl : ds.length = 2) (h : c_law_off ds Q) : t_law_off c_law_less c_law_plus c_law_times { nx := fun _ => Q .none, rt := Q } (startD 4 ds) := by
  obtain ⟨m, n, p, l, D, rfl, hD, hl', hn, hl, hQ⟩ := h
  obtain ⟨d1, d2, rfl, u1, u2⟩ := hD.ex
  refine ⟨_, _, _, _, _, _, rfl, UF.int hl'.a hn, u1, by omega, fun x hx => ?_⟩
  refine ⟨_, _, _, _, _, _, rfl, UF.int hl'.b hn, u2, by omega, fun y hy => ?_⟩
  refine ⟨_, _, _, _, _, _, rfl, hx, hy, by omega, fun s hs => ?_⟩
  exact ⟨_, _, _, _, _, _, rfl, hs, UF.int hl'.c hn, by omega, fun z hz => hQ z (hz.mono (by omega))⟩
end Mb
set_option Elab.async false
set_option linter.all false
set_option maxRecDepth 100000
set_option maxHeartbeats 1000000
namespace Mb
open PySem PySem.Spec PyProof.Rows L2
local macro_rules | `(tactic| walk_at "nrm") => `(tactic| try dsimp only [startD, setAll, gSub, gAdd, gNeg, List.map, List.length, List.replicate, HAppend.hAppend, Append.append, List.append, List.set, Nat.reduceAdd, Nat.reduceSub])
/-! ### the law's tests of form -/
theorem isi_tt (ds : List PyData) : isiB "tuple" (.tuple ds) = some true := by
  show (if ("tuple" : String) = "tuple" then some true else none) = some true
  rw [if_pos rfl]
theorem isi_ii (i : Int) : isiB "int" (.int i) = some true := by
  show (if ("int" : String) = "int" then some true else if ("int" : String) = "bool" then some false else none) = some true
  rw [if_pos rfl]
theorem isi_bi (i : Int) : isiB "bool" (.int i) = some false := by
  show (if ("bool" : String) = "int" then some true else if ("bool" : String) = "bool" then some false else none) = some false
  rw [if_neg (by decide), if_pos rfl]
def c_law_whole : Ct := fun ds Q => ∃ i, ds = [.int i] ∧ Q (.bool true)
theorem rd_law_whole (ds : List PyData) (Q : PyData → Prop) (hl : ds.length = 1) (h : c_law_whole ds Q) : t_law_whole { nx := fun _ => Q .none, rt := Q } (startD 1 ds) := by
  obtain ⟨i, rfl, hQ⟩ := h
  exact ⟨true, isi_ii i, ⟨false, isi_bi i, hQ⟩⟩
def c_law_is_frac : Ct := fun ds Q => ∃ q, ds = [fr q] ∧ Q (.bool true)
theorem fr_gcd (q : Rat) : Int.gcd q.num (q.den : Int) = 1 := by
  have := q.reduced
  unfold Nat.Coprime at this
  show Nat.gcd q.num.natAbs ((q.den : Int)).natAbs = 1
  simpa using this
theorem rd_law_is_frac (ds : List PyData) (Q : PyData → Prop) (hl : ds.length = 1) (h : c_law_is_frac ds Q) : t_law_is_frac c_divisor c_law_whole { nx := fun _ => Q .none, rt := Q } (startD 1 ds) := by
  obtain ⟨q, rfl, hQ⟩ := h
  have dp := den_pos' q
  unfold t_law_is_frac
  refine seqIfF (fun P h => ⟨true, isi_tt _, h⟩) (seqSkip ?_)
  refine seqIfF (fun P h => ⟨_, rfl, _, rfl, (show P (decide ((q.den : Int) < 1)) by rw [decide_eq_false (by omega)]; exact h)⟩) (seqSkip ?_)
  refine ⟨_, _, rfl, ?_⟩
  show Q (.bool (decide (((Int.gcd q.num (q.den : Int) : Nat) : Int) = 1)))
  rw [fr_gcd]
  exact hQ
def c_law_is_place : Ct := fun ds Q => ∃ p, ds = [pl p] ∧ Q (.bool true)
theorem rd_law_is_place (ds : List PyData) (Q : PyData → Prop) (hl : ds.length = 1) (h : c_law_is_place ds Q) : t_law_is_place c_law_is_frac { nx := fun _ => Q .none, rt := Q } (startD 1 ds) := by
  obtain ⟨p, rfl, hQ⟩ := h
  refine ⟨true, isi_tt _, ?_⟩
  exact ⟨_, rfl, _, rfl, hQ⟩
theorem seqForT {i : Nat} {src : TD} {tb u : TDS} {E : DE} {δ : Dn} {ds : List PyData} (hs : ∀ P : PyData → Prop, P (.tuple ds) → src δ P) (n : Dn → Prop) (h0 : n δ) (he : ∀ δ, n δ → u E δ)
    (hb : ∀ d ∈ ds, ∀ δ (N : Dn → Prop), n δ → (∀ δ', n δ' → N δ') → tb { nx := N, ct := N, bk := u E, rt := E.rt } (δ.set i (some d))) : dSeq (dForT i src tb) u E δ := hs _ (forR_all (E := { E with nx := u E }) n he ds hb δ h0)
def c_law_is_line : Ct := fun ds Q => ∃ l, ds = [ln l] ∧ Nm l ∧ Q (.bool true)
theorem rd_law_is_line (ds : List PyData) (Q : PyData → Prop) (hl : ds.length = 1) (h : c_law_is_line ds Q) : t_law_is_line c_divisor c_law_whole { nx := fun _ => Q .none, rt := Q } (startD 2 ds) := by
  obtain ⟨l, rfl, nl, hQ⟩ := h
  unfold t_law_is_line
  refine seqIfF (fun P h => ⟨true, isi_tt _, h⟩) (seqSkip ?_)
  refine seqForT (ds := [.int l.a, .int l.b, .int l.c]) (fun P h => h) (fun δ => ∃ x, δ = [some (ln l), x]) ⟨_, rfl⟩ (fun δ ⟨x, e⟩ => ?_) (fun d hd δ N ⟨x, e⟩ hN => ?_)
  rotate_left
  · subst e
    have hi : ∃ i, d = .int i := by
      simp only [List.mem_cons, List.not_mem_nil, or_false] at hd
      rcases hd with rfl | rfl | rfl <;> exact ⟨_, rfl⟩
    obtain ⟨i, rfl⟩ := hi
    exact ⟨i, rfl, hN _ ⟨_, rfl⟩⟩
  subst e
  have fin : (dRet (dCmpV cEq (dCall 2 c_divisor (dCons (dCall 2 c_divisor (dCons (dOp gIx (dVar 0) (dC (.int 0))) (dCons (dOp gIx (dVar 0) (dC (.int 1))) dNil))) (dCons (dOp gIx (dVar 0) (dC (.int 2))) dNil))) (dC (.int 1)))) { nx := fun _ => Q .none, rt := Q } [some (ln l), x] := by
    refine ⟨_, _, rfl, _, _, rfl, ?_⟩
    show Q (.bool (decide (((Int.gcd (Int.gcd l.a l.b : Int) l.c : Nat) : Int) = 1)))
    rw [nl.one]
    exact hQ
  rcases nl.pos with h | ⟨h1, h2⟩
  · refine seqIfF (fun P g => ?_) (seqSkip fin)
    show if decide (l.a < 0) = true then _ else _
    rw [decide_eq_false (by omega), if_neg (by decide)]
    show if decide (l.a = 0) = true then _ else _
    rw [decide_eq_false (by omega), if_neg (by decide)]
    exact g
  · refine seqIfF (fun P g => ?_) (seqSkip fin)
    show if decide (l.a < 0) = true then _ else _
    rw [decide_eq_false (by omega), if_neg (by decide)]
    show if decide (l.a = 0) = true then _ else _
    rw [decide_eq_true h1, if_pos rfl]
    show P (decide (l.b < 1))
    rw [decide_eq_false (by omega)]
    exact g
/-! ### ways, points, lines -/
def c_law_on_way : Ct := fun ds Q => ∃ n m p q t D, ds = [pl m, pl p, pl q, D] ∧ UF n t D ∧ BP n m ∧ BP n p ∧ BP n q ∧ n < 10000 ∧ m = share p q t ∧ Q (.bool true)
theorem rd_law_on_way (ds : List PyData) (Q : PyData → Prop) (hl : ds.length = 4) (h : c_law_on_way ds Q) : t_law_on_way c_law_even c_law_less c_law_times { nx := fun _ => Q .none, rt := Q } (startD 6 ds) := by
  obtain ⟨n, m, p, q, t, D, rfl, hD, bm, bp, bq, hn, rfl, hQ⟩ := h
  refine ⟨by decide, ?_⟩
  refine ⟨_, _, _, _, _, _, rfl, UF.fr bq.x, UF.fr bp.x, by omega, fun x hx => ?_⟩
  refine ⟨_, _, _, _, _, _, rfl, hD, hx, by omega, fun y hy => ?_⟩
  refine ⟨_, _, _, _, _, _, rfl, UF.fr bm.x, UF.fr bp.x, by omega, fun z hz => ?_⟩
  refine ⟨_, _, _, _, _, _, rfl, hz, hy, by omega, ?_⟩
  rw [decide_eq_true (by unfold share; grind)]
  refine ⟨_, _, _, _, _, _, rfl, UF.fr bq.y, UF.fr bp.y, by omega, fun x hx => ?_⟩
  refine ⟨_, _, _, _, _, _, rfl, hD, hx, by omega, fun y hy => ?_⟩
  refine ⟨_, _, _, _, _, _, rfl, UF.fr bm.y, UF.fr bp.y, by omega, fun z hz => ?_⟩
  refine ⟨_, _, _, _, _, _, rfl, hz, hy, by omega, ?_⟩
  rw [decide_eq_true (by unfold share; grind)]
  exact hQ
end Mb
set_option Elab.async false
set_option linter.all false
set_option maxRecDepth 100000
set_option maxHeartbeats 1000000
namespace Mb
open PySem PySem.Spec PyProof.Rows L2
local macro_rules | `(tactic| walk_at "nrm") => `(tactic| try dsimp only [startD, setAll, gSub, gAdd, gNeg, List.map, List.length, List.replicate, HAppend.hAppend, Append.append, List.append, List.set, Nat.reduceAdd, Nat.reduceSub])
/-! ### what lines and points keep -/
theorem off_oneForm {a b c : Int} (h : ¬ (a = 0 ∧ b = 0)) {p : Pl} (e : (a : Rat) * p.1 + (b : Rat) * p.2 = (c : Rat)) : offR p (oneForm a b c) = 0 := by
  obtain ⟨s, s0, _, ea, eb, ec, _⟩ := oneForm_spec (c := c) h
  unfold offR
  have s1 : (s : Rat) ≠ 0 := fun z => s0 (Rat.intCast_eq_zero_iff.mp z)
  have ea' : (a : Rat) = s * ((oneForm a b c).a : Rat) := by rw [← castMul, ← ea]
  have eb' : (b : Rat) = s * ((oneForm a b c).b : Rat) := by rw [← castMul, ← eb]
  have ec' : (c : Rat) = s * ((oneForm a b c).c : Rat) := by rw [← castMul, ← ec]
  rw [ea', eb', ec'] at e
  generalize ((oneForm a b c).a : Rat) = x at *
  generalize ((oneForm a b c).b : Rat) = y at *
  generalize ((oneForm a b c).c : Rat) = z at *
  have k : (s : Rat) * (x * p.1 + y * p.2 - z) = 0 := by grind
  rcases Rat.mul_eq_zero.mp k with q | q
  · exact absurd q s1
  · exact q
theorem ox_mul (p : Pl) : (ox p : Rat) = p.1 * (ow p : Rat) := by
  have h := ox_eq p
  have w := ow_ne p
  generalize (ox p : Rat) = a at *
  generalize (ow p : Rat) = b at *
  grind
theorem oy_mul (p : Pl) : (oy p : Rat) = p.2 * (ow p : Rat) := by
  have h := oy_eq p
  have w := ow_ne p
  generalize (oy p : Rat) = a at *
  generalize (ow p : Rat) = b at *
  grind
theorem through_off {p q : Pl} (h : p ≠ q) : offR p (through p q) = 0 ∧ offR q (through p q) = 0 := by
  refine ⟨off_oneForm (through_ne h) ?_, off_oneForm (through_ne h) ?_⟩
  · simp only [castSub, castMul, ox_mul, oy_mul]; grind
  · simp only [castSub, castMul, ox_mul, oy_mul]; grind
theorem along_off {p : Pl} {l : Ln} (h : Nm l) : offR p (along p l) = 0 := off_oneForm (along_ne h) (by simp only [castAdd, castMul, ox_mul, oy_mul]; grind)
theorem upright_off {p : Pl} {l : Ln} (h : Nm l) : offR p (upright p l) = 0 := off_oneForm (upright_ne h) (by simp only [castSub, castMul, Rat.intCast_neg, ox_mul, oy_mul]; grind)
theorem along_par {p : Pl} {l : Ln} (nl : Nm l) : (along p l).a * l.b = (along p l).b * l.a := by
  obtain ⟨s, s0, _, ea, eb, ec, _⟩ := oneForm_spec (c := l.a * ox p + l.b * oy p) (along_ne (p := p) nl)
  have w := ow_pos p
  show (oneForm _ _ _).a * _ = (oneForm _ _ _).b * _
  generalize oneForm (l.a * ow p) (l.b * ow p) (l.a * ox p + l.b * oy p) = u at *
  have : s * (u.a * l.b - u.b * l.a) = 0 := by grind
  rcases Int.mul_eq_zero.mp this with q | q
  · exact absurd q s0
  · omega
theorem meet_off {l m : Ln} (h : ¬ par l m) : offR (meet l m) l = 0 ∧ offR (meet l m) m = 0 := by
  have n0 : ((l.a * m.b - l.b * m.a : Int) : Rat) ≠ 0 := fun z => h (Rat.intCast_eq_zero_iff.mp z)
  unfold offR meet
  simp only [castSub, castMul] at *
  generalize (l.a : Rat) = a at *
  generalize (l.b : Rat) = b at *
  generalize (l.c : Rat) = c at *
  generalize (m.a : Rat) = d at *
  generalize (m.b : Rat) = e at *
  generalize (m.c : Rat) = f at *
  constructor <;> grind
theorem foot_off {p : Pl} {l : Ln} (nl : Nm l) : offR (foot p l) l = 0 := (meet_off (upright_perp nl).2).1
/-- l.b x - l.a y is the same at p and at its foot -/
theorem foot_way {p : Pl} {l : Ln} (nl : Nm l) : (p.1 - (foot p l).1) * (l.b : Rat) = (p.2 - (foot p l).2) * (l.a : Rat) := by
  have h1 := (meet_off (upright_perp (p := p) nl).2).2
  have h2 := upright_off (p := p) nl
  obtain ⟨s, s0, _, ea, eb, ec, _⟩ := oneForm_spec (c := l.b * ox p - l.a * oy p) (upright_ne (p := p) nl)
  have s1 : (s : Rat) ≠ 0 := fun z => s0 (Rat.intCast_eq_zero_iff.mp z)
  have w1 := ow_ne p
  have ea' : (l.b : Rat) * (ow p : Rat) = s * ((upright p l).a : Rat) := by rw [← castMul, ← castMul]; exact congrArg _ ea
  have eb' : -(l.a : Rat) * (ow p : Rat) = s * ((upright p l).b : Rat) := by rw [← castMul, ← Rat.intCast_neg, ← castMul]; exact congrArg _ eb
  show (p.1 - (meet l (upright p l)).1) * _ = (p.2 - (meet l (upright p l)).2) * _
  unfold offR at h1 h2
  generalize meet l (upright p l) = f at *
  generalize ((upright p l).a : Rat) = ua at *
  generalize ((upright p l).b : Rat) = ub at *
  generalize ((upright p l).c : Rat) = uc at *
  generalize (s : Rat) = s at *
  generalize (ow p : Rat) = w at *
  generalize (l.a : Rat) = a at *
  generalize (l.b : Rat) = b at *
  have k : w * ((p.1 - f.1) * b - (p.2 - f.2) * a) = 0 := by grind
  rcases Rat.mul_eq_zero.mp k with q | q
  · exact absurd q w1
  · grind
theorem mirror_way {p : Pl} {l : Ln} (nl : Nm l) : (p.1 - (mirror p l).1) * (l.b : Rat) = (p.2 - (mirror p l).2) * (l.a : Rat) := by
  have h := foot_way (p := p) nl
  unfold mirror beyond share
  generalize foot p l = f at *
  grind
theorem mirror_off {p : Pl} {l : Ln} (nl : Nm l) : offR (p.1 + (mirror p l).1, p.2 + (mirror p l).2) ⟨l.a, l.b, 2 * l.c⟩ = 0 := by
  have h := foot_off (p := p) nl
  unfold mirror beyond share
  unfold offR at h ⊢
  simp only [castMul]
  have e2 : ((2 : Int) : Rat) = 2 := rfl
  rw [e2]
  generalize foot p l = f at *
  grind
/-! ### the law's test of points and lines -/
def SzT (n : Nat) : Tl → Prop
  | .pt p => BP n p
  | .line l => Nm l ∧ BL n l
  | .circle C => BP n C.c ∧ Bd n C.s
  | _ => True
def SzX (n : Nat) : Rm → Prop
  | .share _ _ t => Bd n t
  | _ => True
structure SzG (n : Nat) (r : Rm) : Prop where
  pos : 0 < n
  low : n < 9000
  g : ∀ t ∈ rts r, SzT n t
  x : SzX n r
def isPt : Rm → Prop
  | .middle .. | .share .. | .next .. | .turn .. | .foot .. | .mirror .. | .meet .. => True
  | _ => False
def c_law_point : Ct := fun ds Q => ∃ f mk r m n, ds = [mkD mk, pl m, .list ((rts r).map restD)] ∧ Res f mk r ∧ isPt r ∧ made r = .ok (.pt m) ∧ BP n m ∧ SzG n r ∧ Q (.bool true)
theorem okpt {t u : Pl} (h : MR.ok (.pt t) = MR.ok (.pt u)) : u = t := by injection h with h; injection h with h; exact h.symm
theorem UF.one2 {n : Nat} (h : 2 ≤ n) : UF n (1 / 2) (.tuple [.int 1, .int 2]) := by rw [← fr_half]; exact UF.fr (Bd.half.mono h)
theorem UF.two1 {n : Nat} (h : 2 ≤ n) : UF n 2 (.tuple [.int 2, .int 1]) := by rw [← fr_two]; exact UF.fr (Bd.two.mono h)
theorem seqUnpL {is : List Nat} {t : TD} {u : TDS} {E : DE} {δ : Dn} {ds : List PyData} (ht : ∀ P : PyData → Prop, P (.list ds) → t δ P) (hl : ds.length = is.length) (h : u E (setAll δ is ds)) : dSeq (dUnpL is t) u E δ := ht _ ⟨hl, h⟩
theorem seqUnp {is : List Nat} {t : TD} {u : TDS} {E : DE} {δ : Dn} {ds : List PyData} (ht : ∀ P : PyData → Prop, P (.tuple ds) → t δ P) (hl : ds.length = is.length) (h : u E (setAll δ is ds)) : dSeq (dUnp is t) u E δ := ht _ ⟨hl, h⟩
theorem off_zero {m n : Nat} {p : Pl} {l : Ln} {D : PyData} {P : PyData → Prop} {δ : Dn} (hD : PF2 m p D) (hl : BL n l) (h1 : 0 < n) (h2 : m + n < 200000) (e : offR p l = 0) (h : P (.bool true)) : c_law_off [D, ln l] fun d => gIx d (.int 0) fun z => cEq z (.int 0) fun b => P (.bool b) := by
  refine ⟨_, _, _, _, _, rfl, hD, hl, h1, h2, fun z hz => ?_⟩
  obtain ⟨a, b, rfl, hz⟩ := hz.tup
  show P (.bool (decide (a = 0)))
  rw [hz.zero_iff, decide_eq_true e]
  exact h
theorem rd_law_point (ds : List PyData) (Q : PyData → Prop) (hl : ds.length = 3) (h : c_law_point ds Q) : t_law_point c_law_off c_law_plus c_law_even c_law_times c_law_less c_law_on_way { nx := fun _ => Q .none, rt := Q } (startD 8 ds) := by
  obtain ⟨f, mk, r, m, n, rfl, hr, hk, hm, bm, sz, hQ⟩ := h
  have n0 := sz.pos
  have n1 := sz.low
  have g := sz.g
  unfold t_law_point
  have n2 : ∀ {t : Rat} {D : PyData}, UF 2 t D → UF (n + 1) t D := fun h => h.mono (by omega)
  cases hr with
  | middle h1 h2 =>
    rename_i P Q'
    have e := okpt hm
    subst e
    have b1 := g (.pt P) (by simp [rts])
    have b2 := g (.pt Q') (by simp [rts])
    refine seqUnpL (ds := (rts _).map restD) (fun P h => h) rfl ?_
    refine seqSetV (d := .str "middle") (fun P h => h) ?_
    refine seqIfT (fun P h => h) ?_
    exact ⟨n + 1, _, _, _, _, _, rfl, UF.one2 (show 2 ≤ n + 1 by omega), BP.mono bm (show n ≤ n + 1 by omega), BP.mono b1 (show n ≤ n + 1 by omega), BP.mono b2 (show n ≤ n + 1 by omega), (show n + 1 < 10000 by omega), rfl, hQ⟩
  | next h1 h2 =>
    rename_i P Q'
    have e := okpt hm
    subst e
    have b1 := g (.pt P) (by simp [rts])
    have b2 := g (.pt Q') (by simp [rts])
    refine seqUnpL (ds := (rts _).map restD) (fun P h => h) rfl ?_
    refine seqSetV (d := .str "next") (fun P h => h) ?_
    refine seqIfF (fun P h => h) (seqSkip ?_)
    refine seqIfT (fun P h => h) ?_
    exact ⟨n + 1, _, _, _, _, _, rfl, UF.two1 (show 2 ≤ n + 1 by omega), BP.mono bm (show n ≤ n + 1 by omega), BP.mono b1 (show n ≤ n + 1 by omega), BP.mono b2 (show n ≤ n + 1 by omega), (show n + 1 < 10000 by omega), rfl, hQ⟩
  | share h1 h2 =>
    rename_i P Q' t
    have e := okpt hm
    subst e
    have b1 := g (.pt P) (by simp [rts])
    have b2 := g (.pt Q') (by simp [rts])
    refine seqUnpL (ds := (rts _).map restD) (fun P h => h) rfl ?_
    refine seqSetV (d := .str "share") (fun P h => h) ?_
    refine seqIfF (fun P h => h) (seqSkip ?_)
    refine seqIfF (fun P h => h) (seqSkip ?_)
    refine seqIfT (fun P h => h) ?_
    exact ⟨n, _, _, _, _, _, rfl, UF.fr sz.x, bm, b1, b2, by omega, rfl, hQ⟩
  | turn h1 h2 =>
    rename_i P Q'
    have e := okpt hm
    subst e
    have b1 := g (.pt P) (by simp [rts])
    have b2 := g (.pt Q') (by simp [rts])
    refine seqUnpL (ds := (rts _).map restD) (fun P h => h) rfl ?_
    refine seqSetV (d := .str "turn") (fun P h => h) ?_
    refine seqIfF (fun P h => h) (seqSkip ?_)
    refine seqIfF (fun P h => h) (seqSkip ?_)
    refine seqIfF (fun P h => h) (seqSkip ?_)
    refine seqIfT (fun P h => h) ?_
    refine seqIfF (fun P' h => ⟨_, _, _, _, _, _, rfl, UF.fr bm.x, UF.fr (BP.y b1), by omega, fun x hx => ⟨_, _, _, _, _, _, rfl, UF.fr (BP.x b2), UF.fr (BP.y b2), by omega, fun y hy => ⟨_, _, _, _, _, _, rfl, hx, hy, by omega, ?_⟩⟩⟩) (seqSkip ?_)
    · rw [decide_eq_true (by unfold turned; grind)]
      exact h
    refine ⟨_, _, _, _, _, _, rfl, UF.fr bm.y, UF.fr (BP.x b2), by omega, fun x hx => ⟨_, _, _, _, _, _, rfl, UF.fr (BP.y b2), UF.fr (BP.x b1), by omega, fun y hy => ⟨_, _, _, _, _, _, rfl, hx, hy, by omega, ?_⟩⟩⟩
    rw [decide_eq_true (by unfold turned; grind)]
    exact hQ
  | meet h1 h2 =>
    rename_i L M
    have b1 := g (.line L) (by simp [rts])
    have b2 := g (.line M) (by simp [rts])
    have np : ¬ par L M := fun z => by
      have e2 : made (.meet L M) = .fails "parallel" := if_pos z
      rw [e2] at hm
      cases hm
    have e2 : made (.meet L M) = .ok (.pt (meet L M)) := if_neg np
    rw [e2] at hm
    have e := okpt hm
    subst e
    obtain ⟨o1, o2⟩ := meet_off np
    refine seqUnpL (ds := (rts _).map restD) (fun P h => h) rfl ?_
    refine seqSetV (d := .str "meet") (fun P h => h) ?_
    refine seqIfF (fun P h => h) (seqSkip ?_)
    refine seqIfF (fun P h => h) (seqSkip ?_)
    refine seqIfF (fun P h => h) (seqSkip ?_)
    refine seqIfF (fun P h => h) (seqSkip ?_)
    refine seqIfT (fun P h => h) ?_
    refine off_zero (P := fun z => boolK z fun b => if b = true then _ else _) (δ := []) (PF2.pl bm) b1.2 n0 (by omega) o1 ?_
    exact off_zero (P := Q) (δ := []) (PF2.pl bm) b2.2 n0 (by omega) o2 hQ
  | foot h1 h2 =>
    rename_i P L
    have e := okpt hm
    subst e
    have b1 := g (.pt P) (by simp [rts])
    have b2 := g (.line L) (by simp [rts])
    have way := foot_way (p := P) b2.1
    have off := foot_off (p := P) b2.1
    generalize foot P L = m at *
    refine seqUnpL (ds := (rts _).map restD) (fun P h => h) rfl ?_
    refine seqSetV (d := .str "foot") (fun P h => h) ?_
    refine seqIfF (fun P h => h) (seqSkip ?_)
    refine seqIfF (fun P h => h) (seqSkip ?_)
    refine seqIfF (fun P h => h) (seqSkip ?_)
    refine seqIfF (fun P h => h) (seqSkip ?_)
    refine seqIfF (fun P h => h) (seqSkip ?_)
    refine ⟨_, _, _, _, _, _, rfl, UF.fr (BP.x b1), UF.fr bm.x, by omega, fun x hx => ?_⟩
    refine ⟨_, _, _, _, _, _, rfl, UF.fr (BP.y b1), UF.fr bm.y, by omega, fun y hy => ?_⟩
    walk_at "nrm"
    refine seqIfF (fun P' h => ⟨_, _, _, _, _, _, rfl, hx, UF.int b2.2.b n0, by omega, fun u hu => ⟨_, _, _, _, _, _, rfl, hy, UF.int b2.2.a n0, by omega, fun v hv => ⟨_, _, _, _, _, _, rfl, hu, hv, by omega, ?_⟩⟩⟩) (seqSkip ?_)
    · rw [decide_eq_true way]
      exact h
    refine seqIfT (fun P h => h) ?_
    exact off_zero (P := Q) (δ := []) (PF2.pl bm) b2.2 n0 (by omega) off hQ
  | mirror h1 h2 =>
    rename_i P L
    have e := okpt hm
    subst e
    have b1 := g (.pt P) (by simp [rts])
    have b2 := g (.line L) (by simp [rts])
    have way := mirror_way (p := P) b2.1
    have off := mirror_off (p := P) b2.1
    generalize mirror P L = m at *
    refine seqUnpL (ds := (rts _).map restD) (fun P h => h) rfl ?_
    refine seqSetV (d := .str "mirror") (fun P h => h) ?_
    refine seqIfF (fun P h => h) (seqSkip ?_)
    refine seqIfF (fun P h => h) (seqSkip ?_)
    refine seqIfF (fun P h => h) (seqSkip ?_)
    refine seqIfF (fun P h => h) (seqSkip ?_)
    refine seqIfF (fun P h => h) (seqSkip ?_)
    refine ⟨_, _, _, _, _, _, rfl, UF.fr (BP.x b1), UF.fr bm.x, by omega, fun x hx => ?_⟩
    refine ⟨_, _, _, _, _, _, rfl, UF.fr (BP.y b1), UF.fr bm.y, by omega, fun y hy => ?_⟩
    walk_at "nrm"
    refine seqIfF (fun P' h => ⟨_, _, _, _, _, _, rfl, hx, UF.int b2.2.b n0, by omega, fun u hu => ⟨_, _, _, _, _, _, rfl, hy, UF.int b2.2.a n0, by omega, fun v hv => ⟨_, _, _, _, _, _, rfl, hu, hv, by omega, ?_⟩⟩⟩) (seqSkip ?_)
    · rw [decide_eq_true way]
      exact h
    refine seqIfF (fun P h => h) (seqSkip ?_)
    refine ⟨_, _, _, _, _, _, rfl, UF.fr (BP.x b1), UF.fr bm.x, by omega, fun x hx => ?_⟩
    refine ⟨_, _, _, _, _, _, rfl, UF.fr (BP.y b1), UF.fr bm.y, by omega, fun y hy => ?_⟩
    have two : Bz 2 2 := by unfold Bz; decide
    refine ⟨two.mulW b2.2.c (by omega), ?_⟩
    exact off_zero (P := Q) (δ := []) (l := ⟨L.a, L.b, 2 * L.c⟩) ⟨_, _, rfl, hx, hy⟩ ⟨b2.2.a.mono (show n ≤ 2 + n by omega), b2.2.b.mono (by omega), two.mul b2.2.c⟩ (by omega) (by omega) off hQ
  | _ => exact hk.elim
end Mb
set_option Elab.async false
set_option linter.all false
set_option maxRecDepth 100000
set_option maxHeartbeats 1000000
namespace Mb
open PySem PySem.Spec PyProof.Rows L2
local macro_rules | `(tactic| walk_at "nrm") => `(tactic| try dsimp only [startD, setAll, gSub, gAdd, gNeg, List.map, List.length, List.replicate, HAppend.hAppend, Append.append, List.append, List.set, Nat.reduceAdd, Nat.reduceSub])
/-! ### determinants: printed by gen_det.py -/
theorem forR_cons {i : Nat} {tb : TDS} {E : DE} {d : PyData} {ds : List PyData} {δ : Dn} (h : tb { nx := forR i tb E ds, ct := forR i tb E ds, bk := E.nx, rt := E.rt } (δ.set i (some d))) : forR i tb E (d :: ds) δ := h
theorem seqForN {i : Nat} {src : TD} {tb u : TDS} {E : DE} {δ : Dn} {n : Int} (hs : ∀ P : PyData → Prop, P (.int n) → src δ P) (hb : -(2 ^ 62) ≤ n ∧ n < 2 ^ 62) (h : forR i tb { E with nx := u E } (rangeD n.toNat) δ) : dSeq (dForN i src tb) u E δ := hs _ ⟨hb, h⟩
theorem UF.bd {n : Nat} {q : Rat} {d : PyData} (h : UF n q d) : Bd n q := by
  obtain ⟨a, b, rfl, h⟩ := h.tup
  obtain ⟨h1, h2, h3, h4, _⟩ := h.val
  exact Bd_of h1 h2 h3 h4
/-- low of such a fraction -/
theorem low_uf {n : Nat} {q : Rat} {f : PyData} {Q : PyData → Prop} (h : UF n q f) (l : n ≤ 13400) (hQ : Q (fr q)) : gIx f (.int 0) fun u => gIx f (.int 1) fun v => c_fraction [u, v] Q := by
  obtain ⟨a, b, rfl, h⟩ := h.tup
  obtain ⟨h1, h2, h3, h4, _⟩ := h.val
  refine ⟨a, b, rfl, Int.ne_of_gt h1, h3.mono l, h4.mono l, ?_⟩
  rw [← h2]
  exact hQ
theorem set_low {n : Nat} {q v : Rat} {f : PyData} {E : DE} {δ : Dn} (h : UF n q f) (e : q = v) (l : n ≤ 13400) (hd : δ[1]? = some (some f)) (hQ : E.nx (δ.set 1 (some (fr v)))) : dSet 1 (dCall 2 c_fraction (dCons (dOp gIx (dVar 1) (dC (.int 0))) (dCons (dOp gIx (dVar 1) (dC (.int 1))) dNil))) E δ := by
  obtain ⟨a, b, rfl, h⟩ := h.tup
  obtain ⟨h1, h2, h3, h4, _⟩ := h.val
  subst e
  refine dVar_at hd (dVar_at hd ⟨a, b, rfl, Int.ne_of_gt h1, h3.mono l, h4.mono l, ?_⟩)
  rw [← h2]
  exact hQ
abbrev oneD : PyData := .tuple [.int 1, .int 1]
theorem UF.o : UF 1 1 oneD := UF.int (i := 1) (Bz.one (by decide)) (by decide)
theorem UF.z : UF 1 0 (.tuple [.int 0, .int 1]) := UF.int (i := 0) Bz.zero (by decide)
def c_det1 : Ct := fun ds Q => ∃ d, ds = [.list [.list [d]]] ∧ Q d
theorem rd_det1 {c1 c2 c3 c4 c5 : Ct} (ds : List PyData) (Q : PyData → Prop) (hl : ds.length = 1) (h : c_det1 ds Q) : t_law_det c1 c2 c3 c4 c5 { nx := fun _ => Q .none, rt := Q } (startD 6 ds) := by
  obtain ⟨d, rfl, hQ⟩ := h
  unfold t_law_det
  refine seqIfT (fun P h => h) ?_
  exact hQ
def c_det2 : Ct := fun ds Q => ∃ m n p q a b, ds = [.list [.list [a, oneD], .list [b, oneD]]] ∧ UF m p a ∧ UF n q b ∧ m + n + 10 < 13400 ∧ Q (fr (p - q))
def row3 (p : Pl) : PyData := .list [fr p.1, fr p.2, oneD]
def det3R (p q r : Pl) : Rat := p.1 * (q.2 - r.2) - q.1 * (p.2 - r.2) + r.1 * (p.2 - q.2)
def c_det3 : Ct := fun ds Q => ∃ p q r i j k, ds = [.list [row3 p, row3 q, row3 r]] ∧ BP i p ∧ BP j q ∧ BP k r ∧ 3 * (i + j + k) + 20 < 13400 ∧ Q (fr (det3R p q r))
def row4 (a : PyData) (p : Pl) : PyData := .list [a, fr p.1, fr p.2, oneD]
def nrm (p : Pl) : Rat := p.1 * p.1 + p.2 * p.2
def det4R (p q r s : Pl) : Rat := nrm p * det3R q r s - nrm q * det3R p r s + nrm r * det3R p q s - nrm s * det3R p q r
def c_det4 : Ct := fun ds Q => ∃ p q r s i j k l a b c d S, ds = [.list [row4 a p, row4 b q, row4 c r, row4 d s]] ∧ (BP i p ∧ BP j q ∧ BP k r ∧ BP l s) ∧ (UF (4 * i + 1) (nrm p) a ∧ UF (4 * j + 1) (nrm q) b ∧ UF (4 * k + 1) (nrm r) c ∧ UF (4 * l + 1) (nrm s) d) ∧
  (Bd S (det3R q r s) ∧ Bd S (det3R p r s) ∧ Bd S (det3R p q s) ∧ Bd S (det3R p q r)) ∧ 4 * (i + j + k + l) + 4 * S + 40 < 13400 ∧ 3 * (i + j + k + l) + 20 < 13400 ∧ Q (fr (det4R p q r s))
theorem det_len {xs : List PyData} {P : Bool → Prop} {x1 x2 x3 x4 x5 : Option PyData} (h1 : xs.length ≠ 1) (h : P false) : dCmpT cEq (dUn gLen (dVar 0)) (dC (.int 1)) [some (.list xs), x1, x2, x3, x4, x5] P := by
  show P (decide (((xs.length : Nat) : Int) = 1))
  rw [decide_eq_false (by omega)]
  exact h
theorem rd_det2 {cd : Ct} (hcd : ∀ ds Q, c_det1 ds Q → cd ds Q) (ds : List PyData) (Q : PyData → Prop) (hl : ds.length = 1) (h : c_det2 ds Q) : t_law_det c_fraction c_law_plus c_law_less c_law_times cd { nx := fun _ => Q .none, rt := Q } (startD 6 ds) := by
  obtain ⟨m, n, p, q, a, b, rfl, ha, hb, hl, hQ⟩ := h
  unfold t_law_det
  refine seqIfF (fun P h => det_len (fun z => by cases z) h) (seqSkip ?_)
  refine seqSetV (d := .tuple [.int 0, .int 1]) (fun P h => h) ?_
  refine seqForN (n := 2) (fun P h => h) (by decide) ?_
  show forR 2 _ _ [.int 0, .int 1] _
  have F0 := UF.z
  refine forR_cons ?_
  refine seqSetV (d := .list [.list [oneD]]) (fun P h => ⟨(Nat.le_of_ble_eq_true rfl), (Nat.le_of_ble_eq_true rfl), h⟩) ?_
  refine hcd _ _ ⟨oneD, rfl, ⟨_, _, _, _, _, _, rfl, ha, UF.o, by omega, fun z0 hz0 => ?_⟩⟩
  walk_at "nrm"
  refine seqIfT (fun P h => ⟨by decide, h⟩) ?_
  refine ⟨_, _, _, _, _, _, rfl, F0, hz0, by omega, fun f0 hf0 => ?_⟩
  walk_at "nrm"
  refine set_low (v := p) hf0 (by grind) (by omega) rfl ?_
  have F1 := UF.fr (ha.bd)
  walk_at "nrm"
  refine forR_cons ?_
  refine seqSetV (d := .list [.list [oneD]]) (fun P h => ⟨(Nat.le_of_ble_eq_true rfl), (Nat.le_of_ble_eq_true rfl), h⟩) ?_
  refine hcd _ _ ⟨oneD, rfl, ⟨_, _, _, _, _, _, rfl, hb, UF.o, by omega, fun z1 hz1 => ?_⟩⟩
  walk_at "nrm"
  refine seqIfF (fun P h => ⟨by decide, h⟩) ?_
  refine ⟨_, _, _, _, _, _, rfl, F1, hz1, by omega, fun f1 hf1 => ?_⟩
  walk_at "nrm"
  refine set_low (v := p - q) hf1 (by grind) (by omega) rfl ?_
  have F2 := UF.fr (ha.bd.sub hb.bd)
  exact hQ
theorem rd_det3 {cd : Ct} (hcd : ∀ ds Q, c_det2 ds Q → cd ds Q) (ds : List PyData) (Q : PyData → Prop) (hl : ds.length = 1) (h : c_det3 ds Q) : t_law_det c_fraction c_law_plus c_law_less c_law_times cd { nx := fun _ => Q .none, rt := Q } (startD 6 ds) := by
  obtain ⟨p, q, r, i, j, k, rfl, bp, bq, br, hl, hQ⟩ := h
  unfold t_law_det
  refine seqIfF (fun P h => det_len (fun z => by cases z) h) (seqSkip ?_)
  refine seqSetV (d := .tuple [.int 0, .int 1]) (fun P h => h) ?_
  refine seqForN (n := 3) (fun P h => h) (by decide) ?_
  show forR 2 _ _ [.int 0, .int 1, .int 2] _
  have F0 := UF.z
  refine forR_cons ?_
  refine seqSetV (d := .list [.list [fr q.2, oneD], .list [fr r.2, oneD]]) (fun P h => ⟨(Nat.le_of_ble_eq_true rfl), (Nat.le_of_ble_eq_true rfl), (Nat.le_of_ble_eq_true rfl), h⟩) ?_
  refine hcd _ _ ⟨_, _, _, _, _, _, rfl, UF.fr bq.y, UF.fr br.y, by omega, ⟨_, _, _, _, _, _, rfl, UF.fr bp.x, UF.fr (bq.y.sub br.y), by omega, fun z0 hz0 => ?_⟩⟩
  walk_at "nrm"
  refine seqIfT (fun P h => ⟨by decide, h⟩) ?_
  refine ⟨_, _, _, _, _, _, rfl, F0, hz0, by omega, fun f0 hf0 => ?_⟩
  walk_at "nrm"
  refine set_low (v := p.1 * (q.2 - r.2)) hf0 (by grind) (by omega) rfl ?_
  have F1 := UF.fr (bp.x.mul (bq.y.sub br.y))
  walk_at "nrm"
  refine forR_cons ?_
  refine seqSetV (d := .list [.list [fr p.2, oneD], .list [fr r.2, oneD]]) (fun P h => ⟨(Nat.le_of_ble_eq_true rfl), (Nat.le_of_ble_eq_true rfl), (Nat.le_of_ble_eq_true rfl), h⟩) ?_
  refine hcd _ _ ⟨_, _, _, _, _, _, rfl, UF.fr bp.y, UF.fr br.y, by omega, ⟨_, _, _, _, _, _, rfl, UF.fr bq.x, UF.fr (bp.y.sub br.y), by omega, fun z1 hz1 => ?_⟩⟩
  walk_at "nrm"
  refine seqIfF (fun P h => ⟨by decide, h⟩) ?_
  refine ⟨_, _, _, _, _, _, rfl, F1, hz1, by omega, fun f1 hf1 => ?_⟩
  walk_at "nrm"
  refine set_low (v := p.1 * (q.2 - r.2) - q.1 * (p.2 - r.2)) hf1 (by grind) (by omega) rfl ?_
  have F2 := UF.fr ((bp.x.mul (bq.y.sub br.y)).sub (bq.x.mul (bp.y.sub br.y)))
  walk_at "nrm"
  refine forR_cons ?_
  refine seqSetV (d := .list [.list [fr p.2, oneD], .list [fr q.2, oneD]]) (fun P h => ⟨(Nat.le_of_ble_eq_true rfl), (Nat.le_of_ble_eq_true rfl), (Nat.le_of_ble_eq_true rfl), h⟩) ?_
  refine hcd _ _ ⟨_, _, _, _, _, _, rfl, UF.fr bp.y, UF.fr bq.y, by omega, ⟨_, _, _, _, _, _, rfl, UF.fr br.x, UF.fr (bp.y.sub bq.y), by omega, fun z2 hz2 => ?_⟩⟩
  walk_at "nrm"
  refine seqIfT (fun P h => ⟨by decide, h⟩) ?_
  refine ⟨_, _, _, _, _, _, rfl, F2, hz2, by omega, fun f2 hf2 => ?_⟩
  walk_at "nrm"
  refine set_low (v := p.1 * (q.2 - r.2) - q.1 * (p.2 - r.2) + r.1 * (p.2 - q.2)) hf2 (by grind) (by omega) rfl ?_
  have F3 := UF.fr (((bp.x.mul (bq.y.sub br.y)).sub (bq.x.mul (bp.y.sub br.y))).add (br.x.mul (bp.y.sub bq.y)))
  exact hQ
theorem rd_det4 {cd : Ct} (hcd : ∀ ds Q, c_det3 ds Q → cd ds Q) (ds : List PyData) (Q : PyData → Prop) (hl : ds.length = 1) (h : c_det4 ds Q) : t_law_det c_fraction c_law_plus c_law_less c_law_times cd { nx := fun _ => Q .none, rt := Q } (startD 6 ds) := by
  obtain ⟨p, q, r, s, i, j, k, l, a, b, c, d, S, rfl, ⟨bp, bq, br, bs⟩, ⟨ua, ub, uc, ud⟩, ⟨D0, D1, D2, D3⟩, hl1, hl2, hQ⟩ := h
  unfold t_law_det
  refine seqIfF (fun P h => det_len (fun z => by cases z) h) (seqSkip ?_)
  refine seqSetV (d := .tuple [.int 0, .int 1]) (fun P h => h) ?_
  refine seqForN (n := 4) (fun P h => h) (by decide) ?_
  show forR 2 _ _ [.int 0, .int 1, .int 2, .int 3] _
  have F0 := UF.z
  refine forR_cons ?_
  refine seqSetV (d := .list [row3 q, row3 r, row3 s]) (fun P h => ⟨(Nat.le_of_ble_eq_true rfl), (Nat.le_of_ble_eq_true rfl), (Nat.le_of_ble_eq_true rfl), (Nat.le_of_ble_eq_true rfl), h⟩) ?_
  refine hcd _ _ ⟨q, r, s, _, _, _, rfl, bq, br, bs, by omega, ⟨_, _, _, _, _, _, rfl, ua, UF.fr D0, by omega, fun z0 hz0 => ?_⟩⟩
  walk_at "nrm"
  refine seqIfT (fun P h => ⟨by decide, h⟩) ?_
  refine ⟨_, _, _, _, _, _, rfl, F0, hz0, by omega, fun f0 hf0 => ?_⟩
  walk_at "nrm"
  refine set_low (v := nrm p * det3R q r s) hf0 (by grind) (by omega) rfl ?_
  have F1 := UF.fr (ua.bd.mul D0)
  walk_at "nrm"
  refine forR_cons ?_
  refine seqSetV (d := .list [row3 p, row3 r, row3 s]) (fun P h => ⟨(Nat.le_of_ble_eq_true rfl), (Nat.le_of_ble_eq_true rfl), (Nat.le_of_ble_eq_true rfl), (Nat.le_of_ble_eq_true rfl), h⟩) ?_
  refine hcd _ _ ⟨p, r, s, _, _, _, rfl, bp, br, bs, by omega, ⟨_, _, _, _, _, _, rfl, ub, UF.fr D1, by omega, fun z1 hz1 => ?_⟩⟩
  walk_at "nrm"
  refine seqIfF (fun P h => ⟨by decide, h⟩) ?_
  refine ⟨_, _, _, _, _, _, rfl, F1, hz1, by omega, fun f1 hf1 => ?_⟩
  walk_at "nrm"
  refine set_low (v := nrm p * det3R q r s - nrm q * det3R p r s) hf1 (by grind) (by omega) rfl ?_
  have F2 := UF.fr ((ua.bd.mul D0).sub (ub.bd.mul D1))
  walk_at "nrm"
  refine forR_cons ?_
  refine seqSetV (d := .list [row3 p, row3 q, row3 s]) (fun P h => ⟨(Nat.le_of_ble_eq_true rfl), (Nat.le_of_ble_eq_true rfl), (Nat.le_of_ble_eq_true rfl), (Nat.le_of_ble_eq_true rfl), h⟩) ?_
  refine hcd _ _ ⟨p, q, s, _, _, _, rfl, bp, bq, bs, by omega, ⟨_, _, _, _, _, _, rfl, uc, UF.fr D2, by omega, fun z2 hz2 => ?_⟩⟩
  walk_at "nrm"
  refine seqIfT (fun P h => ⟨by decide, h⟩) ?_
  refine ⟨_, _, _, _, _, _, rfl, F2, hz2, by omega, fun f2 hf2 => ?_⟩
  walk_at "nrm"
  refine set_low (v := nrm p * det3R q r s - nrm q * det3R p r s + nrm r * det3R p q s) hf2 (by grind) (by omega) rfl ?_
  have F3 := UF.fr (((ua.bd.mul D0).sub (ub.bd.mul D1)).add (uc.bd.mul D2))
  walk_at "nrm"
  refine forR_cons ?_
  refine seqSetV (d := .list [row3 p, row3 q, row3 r]) (fun P h => ⟨(Nat.le_of_ble_eq_true rfl), (Nat.le_of_ble_eq_true rfl), (Nat.le_of_ble_eq_true rfl), (Nat.le_of_ble_eq_true rfl), h⟩) ?_
  refine hcd _ _ ⟨p, q, r, _, _, _, rfl, bp, bq, br, by omega, ⟨_, _, _, _, _, _, rfl, ud, UF.fr D3, by omega, fun z3 hz3 => ?_⟩⟩
  walk_at "nrm"
  refine seqIfF (fun P h => ⟨by decide, h⟩) ?_
  refine ⟨_, _, _, _, _, _, rfl, F3, hz3, by omega, fun f3 hf3 => ?_⟩
  walk_at "nrm"
  refine set_low (v := nrm p * det3R q r s - nrm q * det3R p r s + nrm r * det3R p q s - nrm s * det3R p q r) hf3 (by grind) (by omega) rfl ?_
  have F4 := UF.fr ((((ua.bd.mul D0).sub (ub.bd.mul D1)).add (uc.bd.mul D2)).sub (ud.bd.mul D3))
  exact hQ
end Mb
set_option Elab.async false
set_option linter.all false
set_option maxRecDepth 100000
set_option maxHeartbeats 1000000
namespace Mb
open PySem PySem.Spec PyProof.Rows L2
local macro_rules | `(tactic| walk_at "nrm") => `(tactic| try dsimp only [startD, setAll, gSub, gAdd, gNeg, List.map, List.length, List.replicate, HAppend.hAppend, Append.append, List.append, List.set, Nat.reduceAdd, Nat.reduceSub])
/-! ### a line that is told -/
def isLn : Rm → Prop
  | .line .. | .along .. | .upright .. => True
  | _ => False
def c_law_line_fits : Ct := fun ds Q => ∃ f mk r l n, ds = [mkD mk, ln l, .list ((rts r).map restD)] ∧ Res f mk r ∧ isLn r ∧ made r = .ok (.line l) ∧ BL n l ∧ SzG n r ∧ Q (.bool true)
theorem okln {t u : Ln} (h : MR.ok (.line t) = MR.ok (.line u)) : u = t := by injection h with h; injection h with h; exact h.symm
theorem off_ne {m n : Nat} {p : Pl} {l : Ln} {D : PyData} {P : Bool → Prop} (hD : PF2 m p D) (hl : BL n l) (h1 : 0 < n) (h2 : m + n < 200000) (e : offR p l = 0) (h : P false) : c_law_off [D, ln l] fun d => gIx d (.int 0) fun z => cNe z (.int 0) P := by
  refine ⟨_, _, _, _, _, rfl, hD, hl, h1, h2, fun z hz => ?_⟩
  obtain ⟨a, b, rfl, hz⟩ := hz.tup
  show P (!decide (a = 0))
  rw [hz.zero_iff, decide_eq_true e]
  exact h
theorem rd_law_line_fits (ds : List PyData) (Q : PyData → Prop) (hl : ds.length = 3) (h : c_law_line_fits ds Q) : t_law_line_fits c_law_off c_law_is_line { nx := fun _ => Q .none, rt := Q } (startD 3 ds) := by
  obtain ⟨f, mk, r, l, n, rfl, hr, hk, hm, bl, sz, hQ⟩ := h
  have n0 := sz.pos
  have n1 := sz.low
  have g := sz.g
  unfold t_law_line_fits
  cases hr with
  | line h1 h2 =>
    rename_i P Q'
    have b1 := g (.pt P) (by simp [rts])
    have b2 := g (.pt Q') (by simp [rts])
    have np : P ≠ Q' := fun z => by
      have e2 : made (.line P Q') = .fails "same" := if_pos z
      rw [e2] at hm
      cases hm
    have e2 : made (.line P Q') = .ok (.line (through P Q')) := if_neg np
    rw [e2] at hm
    have e := okln hm
    subst e
    refine seqIfF (fun P' h => ⟨_, rfl, through_nm np, off_ne (PF2.pl b1) bl n0 (by omega) (through_off np).1 h⟩) (seqSkip ?_)
    refine seqIfT (fun P h => h) ?_
    exact off_zero (P := Q) (δ := []) (PF2.pl b2) bl n0 (by omega) (through_off np).2 hQ
  | along h1 h2 =>
    rename_i P L
    have b1 := g (.pt P) (by simp [rts])
    have b2 := g (.line L) (by simp [rts])
    have e := okln hm
    subst e
    refine seqIfF (fun P' h => ⟨_, rfl, along_nm b2.1, off_ne (PF2.pl b1) bl n0 (by omega) (along_off b2.1) h⟩) (seqSkip ?_)
    refine seqIfF (fun P h => h) (seqSkip ?_)
    refine seqIfT (fun P h => h) ?_
    refine ⟨bl.a.mulW b2.2.b (by omega), bl.b.mulW b2.2.a (by omega), ?_⟩
    show Q (.bool (decide ((along P L).a * L.b = (along P L).b * L.a)))
    rw [decide_eq_true (along_par b2.1)]
    exact hQ
  | upright h1 h2 =>
    rename_i P L
    have b1 := g (.pt P) (by simp [rts])
    have b2 := g (.line L) (by simp [rts])
    have e := okln hm
    subst e
    refine seqIfF (fun P' h => ⟨_, rfl, upright_nm b2.1, off_ne (PF2.pl b1) bl n0 (by omega) (upright_off b2.1) h⟩) (seqSkip ?_)
    refine seqIfF (fun P h => h) (seqSkip ?_)
    refine seqIfF (fun P h => h) (seqSkip ?_)
    refine ⟨bl.a.mulW b2.2.a (by omega), bl.b.mulW b2.2.b (by omega), ?_⟩
    have way := (upright_perp (p := P) b2.1).1
    show Q (.bool (decide ((upright P L).a * L.a + (upright P L).b * L.b = 0)))
    rw [decide_eq_true (by rw [Int.mul_comm, Int.mul_comm (upright P L).b]; exact way)]
    exact hQ
  | _ => exact hk.elim
/-! ### a claim that is judged -/
def SzS (n : Nat) : Rm → Prop
  | .inline p q r => ∃ i j k, BP i p ∧ BP j q ∧ BP k r ∧ 3 * (i + j + k) + 20 < 13400
  | .round p q r s => ∃ i j k l S, (BP i p ∧ BP j q ∧ BP k r ∧ BP l s) ∧ (Bd S (det3R q r s) ∧ Bd S (det3R p r s) ∧ Bd S (det3R p q s) ∧ Bd S (det3R p q r)) ∧ 4 * (i + j + k + l) + 4 * S + 40 < 13400 ∧ 3 * (i + j + k + l) + 20 < 13400
  | .alike p q r s => BP n p ∧ BP n q ∧ BP n r ∧ BP n s
  | .beside l m | .square l m => BL n l ∧ BL n m
  | _ => False
def c_det34 : Ct := fun ds Q => c_det3 ds Q ∨ c_det4 ds Q
def c_law_so : Ct := fun ds Q => ∃ mk A r n b, ds = [mkD mk, atD A] ∧ Res (look A) mk r ∧ SzS n r ∧ n < 9000 ∧ made r = keptOr b ∧ Q (.bool b)
theorem kept_inj {a b : Bool} (h : keptOr a = keptOr b) : a = b := by
  cases a <;> cases b <;> first | rfl | (simp [keptOr] at h)
theorem num_zero {q : Rat} : decide (q.num = 0) = decide (q = 0) := by
  rw [decide_eq_decide]
  exact ⟨fun h => num0 h, fun h => by subst h; rfl⟩
theorem cross_det (p q r : Pl) : crossR p q r = det3R p q r := by unfold crossR det3R; grind
theorem round_det (p q r s : Pl) : roundR p q r s = det4R p q r s := by
  unfold roundR rnd1 det4R nrm sqb crossR det3R
  grind
theorem rd_law_so (ds : List PyData) (Q : PyData → Prop) (hl : ds.length = 2) (h : c_law_so ds Q) : t_law_so c_law_even c_law_near c_det34 c_law_plus c_law_times c_grounds { nx := fun _ => Q .none, rt := Q } (startD 7 ds) := by
  obtain ⟨mk, A, r, n, b, rfl, hr, sz, hn, hm, hQ⟩ := h
  have each : ∀ (P : PyData → Prop), P (.list ((rts r).map restD)) → dLcL 4 (dCall 1 c_grounds (dCons (dVar 0) dNil)) dYes (dSl (dOp gDGet (dVar 1) (dVar 4)) (dP (dC (.int 1))) dNoP) [some (mkD mk), some (atD A), none, none, none, none, none] P :=
    fun P p => ⟨mk, rfl, comp_bareA (δ := [some (mkD mk), some (atD A), none, none, none, none, none]) (i := 4) (j := 1) rfl (by decide) (by show 4 < 7; decide) hr p⟩
  unfold t_law_so
  cases hr with
  | inline h1 h2 h3 =>
    rename_i P Q' R
    have e := kept_inj hm
    obtain ⟨i, j, k, bp, bq, br, l⟩ := sz
    refine seqSetV (d := .list ((rts _).map restD)) each ?_
    refine seqIfT (fun P h => h) ?_
    refine ⟨(Nat.le_of_ble_eq_true rfl), (Nat.le_of_ble_eq_true rfl), (Nat.le_of_ble_eq_true rfl), .inl ⟨P, Q', R, i, j, k, rfl, bp, bq, br, l, ?_⟩⟩
    show Q (.bool (decide ((det3R P Q' R).num = 0)))
    rw [num_zero, ← cross_det, e]
    exact hQ
  | round h1 h2 h3 h4 =>
    rename_i P Q' R S
    have e := kept_inj hm
    obtain ⟨i, j, k, l, S', ⟨bp, bq, br, bs⟩, hd, l1, l2⟩ := sz
    refine seqSetV (d := .list ((rts _).map restD)) each ?_
    refine seqIfF (fun P h => h) (seqSkip ?_)
    refine seqIfT (fun P h => h) ?_
    refine ⟨_, _, _, _, _, _, rfl, UF.fr bp.x, UF.fr bp.x, by omega, fun x0 hx0 => ⟨_, _, _, _, _, _, rfl, UF.fr bp.y, UF.fr bp.y, by omega, fun y0 hy0 => ⟨_, _, _, _, _, _, rfl, hx0, hy0, by omega, fun z0 hz0 => ⟨(Nat.le_of_ble_eq_true rfl), ?_⟩⟩⟩⟩
    refine ⟨_, _, _, _, _, _, rfl, UF.fr bq.x, UF.fr bq.x, by omega, fun x1 hx1 => ⟨_, _, _, _, _, _, rfl, UF.fr bq.y, UF.fr bq.y, by omega, fun y1 hy1 => ⟨_, _, _, _, _, _, rfl, hx1, hy1, by omega, fun z1 hz1 => ⟨(Nat.le_of_ble_eq_true rfl), ?_⟩⟩⟩⟩
    refine ⟨_, _, _, _, _, _, rfl, UF.fr br.x, UF.fr br.x, by omega, fun x2 hx2 => ⟨_, _, _, _, _, _, rfl, UF.fr br.y, UF.fr br.y, by omega, fun y2 hy2 => ⟨_, _, _, _, _, _, rfl, hx2, hy2, by omega, fun z2 hz2 => ⟨(Nat.le_of_ble_eq_true rfl), ?_⟩⟩⟩⟩
    refine ⟨_, _, _, _, _, _, rfl, UF.fr bs.x, UF.fr bs.x, by omega, fun x3 hx3 => ⟨_, _, _, _, _, _, rfl, UF.fr bs.y, UF.fr bs.y, by omega, fun y3 hy3 => ⟨_, _, _, _, _, _, rfl, hx3, hy3, by omega, fun z3 hz3 => ⟨(Nat.le_of_ble_eq_true rfl), ?_⟩⟩⟩⟩
    refine ⟨by decide, (Nat.le_of_ble_eq_true rfl), (Nat.le_of_ble_eq_true rfl), (Nat.le_of_ble_eq_true rfl), (Nat.le_of_ble_eq_true rfl), .inr ⟨P, Q', R, S, i, j, k, l, z0, z1, z2, z3, S', rfl, ⟨bp, bq, br, bs⟩, ⟨hz0.mono (by omega), hz1.mono (by omega), hz2.mono (by omega), hz3.mono (by omega)⟩, hd, l1, l2, ?_⟩⟩
    show Q (.bool (decide ((det4R P Q' R S).num = 0)))
    rw [num_zero, ← round_det, e]
    exact hQ
  | alike h1 h2 h3 h4 =>
    rename_i P Q' R S
    have e := kept_inj hm
    obtain ⟨bp, bq, br, bs⟩ := sz
    refine seqSetV (d := .list ((rts _).map restD)) each ?_
    refine seqIfF (fun P h => h) (seqSkip ?_)
    refine seqIfF (fun P h => h) (seqSkip ?_)
    refine seqIfT (fun P h => h) ?_
    refine ⟨_, _, _, _, _, _, rfl, PF2.pl bp, PF2.pl bq, by omega, fun x hx => ?_⟩
    refine ⟨_, _, _, _, _, _, rfl, PF2.pl br, PF2.pl bs, by omega, fun y hy => ?_⟩
    refine ⟨_, _, _, _, _, _, rfl, hx, hy, by omega, ?_⟩
    rw [e]
    exact hQ
  | beside h1 h2 =>
    rename_i L M
    have e := kept_inj hm
    obtain ⟨b1, b2⟩ := sz
    refine seqSetV (d := .list ((rts _).map restD)) each ?_
    refine seqIfF (fun P h => h) (seqSkip ?_)
    refine seqIfF (fun P h => h) (seqSkip ?_)
    refine seqIfF (fun P h => h) (seqSkip ?_)
    refine seqIfT (fun P h => h) ?_
    refine ⟨b1.a.mulW b2.b (by omega), b1.b.mulW b2.a (by omega), ?_⟩
    show Q (.bool (decide (L.a * M.b = L.b * M.a)))
    rw [e]
    exact hQ
  | square h1 h2 =>
    rename_i L M
    have e := kept_inj hm
    obtain ⟨b1, b2⟩ := sz
    refine seqSetV (d := .list ((rts _).map restD)) each ?_
    refine seqIfF (fun P h => h) (seqSkip ?_)
    refine seqIfF (fun P h => h) (seqSkip ?_)
    refine seqIfF (fun P h => h) (seqSkip ?_)
    refine seqIfF (fun P h => h) (seqSkip ?_)
    refine ⟨b1.a.mulW b2.a (by omega), b1.b.mulW b2.b (by omega), ?_⟩
    show Q (.bool (decide (L.a * M.a + L.b * M.b = 0)))
    rw [e]
    exact hQ
  | _ => exact sz.elim
end Mb
set_option Elab.async false
set_option linter.all false
set_option maxRecDepth 100000
set_option maxHeartbeats 1000000
namespace Mb
open PySem PySem.Spec PyProof.Rows L2
local macro_rules | `(tactic| walk_at "nrm") => `(tactic| try dsimp only [startD, setAll, gSub, gAdd, gNeg, List.map, List.length, List.replicate, HAppend.hAppend, Append.append, List.append, List.set, Nat.reduceAdd, Nat.reduceSub])
/-! ### the law's roots, chords, parts -/
theorem rd_law_root (ds : List PyData) (Q : PyData → Prop) (hl : ds.length = 1) (h : c_whole_root ds Q) : t_law_root { nx := fun _ => Q .none, rt := Q } (startD 4 ds) := by
  obtain ⟨n, rfl, hn, bn, hQ⟩ := h
  have big : ∀ x : Int, 0 ≤ x → x ≤ n + 1 → Bz 13301 x := fun x h0 h1 => by
    exact Bz.le (bn.add (Bz.one (show 0 < 13300 by decide)) (by decide) (by decide)) h0 h1
  have one : 0 < n + 1 := by omega
  have sq1 : n < (n + 1) * (n + 1) := by have := le_sq (show 0 ≤ n + 1 by omega); omega
  unfold t_law_root
  refine seqSetV (d := .int 0) (fun P h => h) ?_
  refine seqSetV (d := .int (n + 1)) (fun P h => h) ?_
  walk_at "nrm"
  refine ⟨fun m δ => ∃ lo hi : Int, ∃ z, 0 ≤ lo ∧ lo < hi ∧ hi ≤ n + 1 ∧ lo * lo ≤ n ∧ n < hi * hi ∧ m = (hi - lo).toNat ∧ δ = [some (.int n), some (.int lo), some (.int hi), z], ⟨_, 0, n + 1, none, by omega, by omega, by omega, by omega, sq1, rfl, rfl⟩, ?_⟩
  rintro m δ ⟨lo, hi, z, l0, l1, l2, l3, l4, rfl, rfl⟩
  show if decide (1 < hi - lo) = true then _ else _
  by_cases hd : 1 < hi - lo
  · rw [if_pos (decide_eq_true hd)]
    have bs : Bz 13303 (lo + hi) := (big lo (by omega) (by omega)).add (big hi (by omega) (by omega)) (by decide) (by decide)
    have e2 := two_fdiv (lo + hi)
    have m1 : lo < (lo + hi) / 2 := by omega
    have m2 : (lo + hi) / 2 < hi := by omega
    refine ⟨bs.divX (by decide) (by decide), ?_⟩
    rw [e2]
    have bm := big ((lo + hi) / 2) (by omega) (by omega)
    refine ⟨bm.mulW bm (by decide), ?_⟩
    generalize (lo + hi) / 2 = a at *
    show if decide (a * a ≤ n) = true then _ else _
    by_cases ha : a * a ≤ n
    · rw [if_pos (decide_eq_true ha)]
      exact ⟨(hi - a).toNat, by omega, a, hi, some (.int a), by omega, m2, l2, ha, l4, rfl, rfl⟩
    · rw [if_neg (by simpa using ha)]
      exact ⟨(a - lo).toNat, by omega, lo, a, some (.int a), l0, m1, by omega, l3, by omega, rfl, rfl⟩
  · rw [if_neg (by simpa using hd)]
    have e : hi = lo + 1 := by omega
    subst e
    exact hQ lo l0 l3 l4
/-- the law's test for a root -/
theorem root_test {q : Rat} {a b : Int} (h0 : 0 ≤ q.num) (a0 : 0 ≤ a) (a1 : a * a ≤ q.num) (a2 : q.num < (a + 1) * (a + 1)) (b0 : 0 ≤ b) (b1 : b * b ≤ (q.den : Int)) (b2 : (q.den : Int) < (b + 1) * (b + 1)) : (a * a = q.num ∧ b * b = (q.den : Int)) ↔ ∃ r : Rat, r * r = q := by
  constructor
  · rintro ⟨h1, h2⟩
    refine ⟨(a : Rat) / b, ?_⟩
    have hb : b ≠ 0 := fun z => by subst z; have := den_ne q; omega
    rw [nd q, ← h1, ← h2, castMul, castMul]
    have hb' : (b : Rat) ≠ 0 := fun z => hb (Rat.intCast_eq_zero_iff.mp z)
    generalize (a : Rat) = x at *
    generalize (b : Rat) = y at *
    grind
  · rintro ⟨r, e⟩
    obtain ⟨e1, e2⟩ := sq_num_den r
    rw [e] at e1 e2
    have p1 : a = ((r.num.natAbs : Nat) : Int) := root_uniq (a := ((r.num.natAbs : Nat) : Int)) (by omega) (by rw [e1]; exact Int.natAbs_mul_self) a0 a1 a2
    have p2 : b = (r.den : Int) := root_uniq (by omega) e2.symm b0 b1 b2
    refine ⟨?_, by rw [p2]; exact e2.symm⟩
    rw [p1, e1]; exact Int.natAbs_mul_self
def chA : Tl → Ci → Rat
  | .line l, _ => (l.a : Rat)
  | .circle A, B => btA A B
  | _, _ => 0
def chB : Tl → Ci → Rat
  | .line l, _ => (l.b : Rat)
  | .circle A, B => btB A B
  | _, _ => 0
def chC : Tl → Ci → Rat
  | .line l, _ => (l.c : Rat)
  | .circle A, B => btC A B
  | _, _ => 0
def SzC : Tl → Ci → Prop
  | .line _, _ => True
  | .circle A, B => ∃ m n c d, BP m A.c ∧ BP n B.c ∧ Bd c A.s ∧ Bd d B.s ∧ 4 * m + 4 * n + c + d + 10 < 13400
  | _, _ => False
def c_law_chord : Ct := fun ds Q => ∃ u C, ds = [tlD u, tlD (.circle C)] ∧ SzC u C ∧ Q (.list [fr (chA u C), fr (chB u C), fr (chC u C)])
/-- low of a double -/
theorem frac_two {n : Nat} {q v : Rat} {a b : Int} (h : UF n q (.tuple [.int a, .int b])) (e : 2 * q = v) (l : n + 2 ≤ 13400) : CMulW 2 a ∧ b ≠ 0 ∧ Bz 13400 (2 * a) ∧ Bz 13400 b ∧ ((2 * a : Int) : Rat) / (b : Rat) = v := by
  subst e
  obtain ⟨h1, h2, h3, h4, _⟩ := h.val
  have two : Bz 2 2 := by unfold Bz; decide
  refine ⟨two.mulW h3 (by omega), Int.ne_of_gt h1, (two.mul h3).mono (by omega), h4.mono (by omega), ?_⟩
  rw [castMul, h2]
  have n2 := posR h1
  have e2 : ((2 : Int) : Rat) = 2 := rfl
  rw [e2]
  generalize (a : Rat) = x at *
  generalize (b : Rat) = y at *
  grind
theorem frac_one {n : Nat} {q v : Rat} {a b : Int} (h : UF n q (.tuple [.int a, .int b])) (e : q = v) (l : n ≤ 13400) : b ≠ 0 ∧ Bz 13400 a ∧ Bz 13400 b ∧ (a : Rat) / (b : Rat) = v := by
  subst e
  obtain ⟨h1, h2, h3, h4, _⟩ := h.val
  exact ⟨Int.ne_of_gt h1, h3.mono l, h4.mono l, h2.symm⟩
theorem rd_law_chord (ds : List PyData) (Q : PyData → Prop) (hl : ds.length = 2) (h : c_law_chord ds Q) : t_law_chord c_fraction c_law_plus c_law_less c_law_times { nx := fun _ => Q .none, rt := Q } (startD 8 ds) := by
  obtain ⟨u, C, rfl, sz, hQ⟩ := h
  unfold t_law_chord
  cases u with
  | line l =>
    refine seqIfT (fun P h => h) ?_
    have e : PyData.list [fr (chA (.line l) C), fr (chB (.line l) C), fr (chC (.line l) C)] = .list [.tuple [.int l.a, .int 1], .tuple [.int l.b, .int 1], .tuple [.int l.c, .int 1]] := by
      unfold chA chB chC
      simp only [fr_int]
    rw [e] at hQ
    exact ⟨nw _ _, (Nat.le_of_ble_eq_true rfl), (Nat.le_of_ble_eq_true rfl), (Nat.le_of_ble_eq_true rfl), hQ⟩
  | circle A =>
    obtain ⟨m, n, c, d, bA, bB, bs, bt, l⟩ := sz
    have ax : Bd m A.x := bA.x
    have ay : Bd m A.y := bA.y
    have bx : Bd n C.x := bB.x
    have by_ : Bd n C.y := bB.y
    refine seqIfF (fun P h => h) (seqSkip ?_)
    refine ⟨_, _, _, _, _, _, rfl, UF.fr bx, UF.fr ax, by omega, fun x hx => ?_⟩
    refine ⟨_, _, _, _, _, _, rfl, UF.fr by_, UF.fr ay, by omega, fun y hy => ?_⟩
    refine ⟨_, _, _, _, _, _, rfl, UF.fr bx, UF.fr bx, by omega, fun x1 hx1 => ?_⟩
    refine ⟨_, _, _, _, _, _, rfl, UF.fr by_, UF.fr by_, by omega, fun x2 hx2 => ?_⟩
    refine ⟨_, _, _, _, _, _, rfl, hx1, hx2, by omega, fun x3 hx3 => ?_⟩
    refine ⟨_, _, _, _, _, _, rfl, UF.fr ax, UF.fr ax, by omega, fun x4 hx4 => ?_⟩
    refine ⟨_, _, _, _, _, _, rfl, UF.fr ay, UF.fr ay, by omega, fun x5 hx5 => ?_⟩
    refine ⟨_, _, _, _, _, _, rfl, hx4, hx5, by omega, fun x6 hx6 => ?_⟩
    refine ⟨_, _, _, _, _, _, rfl, UF.fr bs, UF.fr bt, by omega, fun x7 hx7 => ?_⟩
    refine ⟨_, _, _, _, _, _, rfl, hx3, hx6, by omega, fun x8 hx8 => ?_⟩
    refine ⟨_, _, _, _, _, _, rfl, hx7, hx8, by omega, fun x9 hx9 => ?_⟩
    obtain ⟨a1, b1, rfl, hx⟩ := hx.tup
    obtain ⟨a2, b2, rfl, hy⟩ := hy.tup
    obtain ⟨a3, b3, rfl, hx9⟩ := hx9.tup
    have k1 := frac_two (v := btA A C) hx rfl (by omega)
    have k2 := frac_two (v := btB A C) hy rfl (by omega)
    have k3 := frac_one (v := btC A C) hx9 (by unfold btC far; grind) (by omega)
    refine ⟨k1.1, _, _, rfl, k1.2.1, k1.2.2.1, k1.2.2.2.1, ?_⟩
    rw [k1.2.2.2.2]
    refine ⟨k2.1, _, _, rfl, k2.2.1, k2.2.2.1, k2.2.2.2.1, ?_⟩
    rw [k2.2.2.2.2]
    refine ⟨_, _, rfl, k3.1, k3.2.1, k3.2.2.1, ?_⟩
    rw [k3.2.2.2]
    exact hQ
  | _ => exact sz.elim
def eQ (a b c : Rat) (p : Pl) : Rat := c - (a * p.1 + b * p.2)
def nQ (a b : Rat) : Rat := a * a + b * b
def chE (u : Tl) (C : Ci) : Rat := eQ (chA u C) (chB u C) (chC u C) C.c
def chN (u : Tl) (C : Ci) : Rat := nQ (chA u C) (chB u C)
structure SzP (u : Tl) (C : Ci) : Prop where
  c : SzC u C
  ex : ∃ α γ m, Bd α (chA u C) ∧ Bd α (chB u C) ∧ Bd γ (chC u C) ∧ BP m C.c ∧ γ + 2 * α + 2 * m + 3 < 13400 ∧ 4 * α + 2 < 13400
def c_law_parts : Ct := fun ds Q => ∃ u C, ds = [tlD u, tlD (.circle C)] ∧ SzP u C ∧ Q (.tuple [fr (chA u C), fr (chB u C), fr (chE u C), fr (chN u C)])
theorem rd_law_parts (ds : List PyData) (Q : PyData → Prop) (hl : ds.length = 2) (h : c_law_parts ds Q) : t_law_parts c_fraction c_law_plus c_law_times c_law_less c_law_chord { nx := fun _ => Q .none, rt := Q } (startD 7 ds) := by
  obtain ⟨u, C, rfl, ⟨sc, α, γ, m, ba, bb, bc, bp, l1, l2⟩, hQ⟩ := h
  have bx : Bd m C.x := bp.x
  have by_ : Bd m C.y := bp.y
  refine ⟨u, C, rfl, sc, rfl, ?_⟩
  refine ⟨_, _, _, _, _, _, rfl, UF.fr ba, UF.fr bx, by omega, fun x1 h1 => ?_⟩
  refine ⟨_, _, _, _, _, _, rfl, UF.fr bb, UF.fr by_, by omega, fun x2 h2 => ?_⟩
  refine ⟨_, _, _, _, _, _, rfl, h1, h2, by omega, fun x3 h3 => ?_⟩
  refine ⟨_, _, _, _, _, _, rfl, UF.fr bc, h3, by omega, fun x4 h4 => ?_⟩
  refine ⟨_, _, _, _, _, _, rfl, UF.fr ba, UF.fr ba, by omega, fun x5 h5 => ?_⟩
  refine ⟨_, _, _, _, _, _, rfl, UF.fr bb, UF.fr bb, by omega, fun x6 h6 => ?_⟩
  refine ⟨_, _, _, _, _, _, rfl, h5, h6, by omega, fun x7 h7 => ?_⟩
  obtain ⟨a1, b1, rfl, h4⟩ := h4.tup
  obtain ⟨a2, b2, rfl, h7⟩ := h7.tup
  have k1 := frac_one (v := chE u C) h4 rfl (by omega)
  have k2 := frac_one (v := chN u C) h7 rfl (by omega)
  refine ⟨_, _, rfl, k1.1, k1.2.1, k1.2.2.1, ?_⟩
  rw [k1.2.2.2]
  refine ⟨_, _, rfl, k2.1, k2.2.1, k2.2.2.1, ?_⟩
  rw [k2.2.2.2]
  exact hQ
end Mb
set_option Elab.async false
set_option linter.all false
set_option maxRecDepth 100000
set_option maxHeartbeats 1000000
namespace Mb
open PySem PySem.Spec PyProof.Rows L2
local macro_rules | `(tactic| walk_at "nrm") => `(tactic| try dsimp only [startD, setAll, gSub, gAdd, gNeg, List.map, List.length, List.replicate, HAppend.hAppend, Append.append, List.append, List.set, Nat.reduceAdd, Nat.reduceSub])
/-! ### cuts: the program's and the law's -/
def chD (u : Tl) (C : Ci) : Rat := C.s * chN u C - chE u C * chE u C
theorem nR_eq (l : Ln) : nR l = nQ (l.a : Rat) (l.b : Rat) := by
  unfold nR nn nQ
  rw [castAdd, castMul, castMul]
theorem chD_line (l : Ln) (C : Ci) : chD (.line l) C = dR l C := by
  unfold chD dR
  rw [nR_eq]
  rfl
theorem betw_scale {A B : Ci} (h : A.c ≠ B.c) : ∃ k : Rat, k ≠ 0 ∧ ((betw A B).a : Rat) = k * btA A B ∧ ((betw A B).b : Rat) = k * btB A B ∧ ((betw A B).c : Rat) = k * btC A B := by
  obtain ⟨s, s0, _, ea, eb, ec, _⟩ := oneForm_spec (c := (btC A B).num * ((btA A B).den : Int) * ((btB A B).den : Int)) (betw_ne h)
  have s1 : (s : Rat) ≠ 0 := fun z => s0 (Rat.intCast_eq_zero_iff.mp z)
  have ea' : ((btA A B).num : Rat) * (((btB A B).den : Int) : Rat) * (((btC A B).den : Int) : Rat) = s * ((betw A B).a : Rat) := by rw [← castMul, ← castMul, ← castMul]; exact congrArg _ ea
  have eb' : ((btB A B).num : Rat) * (((btA A B).den : Int) : Rat) * (((btC A B).den : Int) : Rat) = s * ((betw A B).b : Rat) := by rw [← castMul, ← castMul, ← castMul]; exact congrArg _ eb
  have ec' : ((btC A B).num : Rat) * (((btA A B).den : Int) : Rat) * (((btB A B).den : Int) : Rat) = s * ((betw A B).c : Rat) := by rw [← castMul, ← castMul, ← castMul]; exact congrArg _ ec
  have n1 := nd (btA A B)
  have n2 := nd (btB A B)
  have n3 := nd (btC A B)
  have d1 := den_neR (btA A B)
  have d2 := den_neR (btB A B)
  have d3 := den_neR (btC A B)
  generalize ((betw A B).a : Rat) = la at *
  generalize ((betw A B).b : Rat) = lb at *
  generalize ((betw A B).c : Rat) = lc at *
  generalize ((btA A B).num : Rat) = a at *
  generalize ((btB A B).num : Rat) = b at *
  generalize ((btC A B).num : Rat) = c at *
  generalize (((btA A B).den : Int) : Rat) = x at *
  generalize (((btB A B).den : Int) : Rat) = y at *
  generalize (((btC A B).den : Int) : Rat) = z at *
  generalize (s : Rat) = s at *
  refine ⟨x * y * z / s, ?_, ?_, ?_, ?_⟩
  · grind
  · rw [n1]; grind
  · rw [n2]; grind
  · rw [n3]; grind
/-- of equal power: the same d by either circle -/
theorem pow_same (A B : Ci) : A.s * nQ (btA A B) (btB A B) - eQ (btA A B) (btB A B) (btC A B) A.c * eQ (btA A B) (btB A B) (btC A B) A.c = chD (.circle A) B := by
  show _ = B.s * nQ (btA A B) (btB A B) - eQ (btA A B) (btB A B) (btC A B) B.c * eQ (btA A B) (btB A B) (btC A B) B.c
  unfold nQ eQ btA btB btC far Ci.c
  grind
theorem dR_betw {A B : Ci} (h : A.c ≠ B.c) : ∃ k : Rat, k ≠ 0 ∧ dR (betw A B) A = k * k * chD (.circle A) B := by
  obtain ⟨k, k0, ea, eb, ec⟩ := betw_scale h
  refine ⟨k, k0, ?_⟩
  rw [← pow_same]
  unfold dR
  rw [nR_eq]
  unfold eR
  rw [ea, eb, ec]
  unfold nQ eQ
  generalize btA A B = a
  generalize btB A B = b
  generalize btC A B = c
  grind
theorem sq_pos {k : Rat} (h : k ≠ 0) : 0 < k * k := by
  by_cases q : 0 < k
  · exact Rat.mul_pos q q
  · have h2 : 0 < -k := by grind
    have := Rat.mul_pos h2 h2
    grind
open Classical in
noncomputable def wordD (d : Rat) : Str := if d < 0 then "miss" else if ∃ r : Rat, r * r = d then "" else "root"
def failW : MR → Str
  | .ok _ => ""
  | .fails w => w
theorem cutR_word (l : Ln) (C : Ci) (k : Int) : failW (cutR l C k) = wordD (dR l C) := by
  unfold wordD
  by_cases h : dR l C < 0
  · rw [if_pos h, cutR_miss h]; rfl
  · rw [if_neg h]
    have h0 : 0 ≤ dR l C := Rat.not_lt.mp h
    by_cases hr : ∃ r : Rat, r * r = dR l C
    · rw [if_pos hr]
      obtain ⟨r, e⟩ := hr
      rcases (Rat.le_total : (0 : Rat) ≤ r ∨ r ≤ 0) with q | q
      · rw [cutR_root h0 q e]; rfl
      · rw [cutR_root (r := -r) h0 (by grind) (by grind)]; rfl
    · rw [if_neg hr, cutR_none h0 fun r e => hr ⟨r, e⟩]; rfl
theorem wordD_scale {k d : Rat} (h : k ≠ 0) : wordD (k * k * d) = wordD d := by
  have p := sq_pos h
  unfold wordD
  have e1 : k * k * d < 0 ↔ d < 0 := by
    constructor
    · intro q
      refine Rat.not_le.mp fun z => ?_
      have := Rat.mul_nonneg (Rat.le_of_lt p) z
      grind
    · intro q
      have := Rat.mul_pos p (show 0 < -d by grind)
      grind
  have e2 : (∃ r : Rat, r * r = k * k * d) ↔ ∃ r : Rat, r * r = d := by
    constructor
    · rintro ⟨r, e⟩
      refine ⟨r / k, ?_⟩
      grind
    · rintro ⟨r, e⟩
      exact ⟨k * r, by grind⟩
  by_cases h1 : d < 0
  · rw [if_pos h1, if_pos (e1.mpr h1)]
  · rw [if_neg h1, if_neg (fun z => h1 (e1.mp z))]
    by_cases h2 : ∃ r : Rat, r * r = d
    · rw [if_pos h2, if_pos (e2.mpr h2)]
    · rw [if_neg h2, if_neg (fun z => h2 (e2.mp z))]
/-- the law's word of a cut is the program's -/
theorem cut_wordL (l : Ln) (C : Ci) (k : Int) : failW (made (.cutL l C k)) = wordD (chD (.line l) C) := by
  rw [chD_line]
  exact cutR_word l C k
theorem cut_wordC {A B : Ci} (h : A.c ≠ B.c) (k : Int) : failW (made (.cutC A B k)) = wordD (chD (.circle A) B) := by
  have e : made (.cutC A B k) = cutR (betw A B) A k := if_neg h
  obtain ⟨j, j0, e2⟩ := dR_betw h
  rw [e, cutR_word, e2, wordD_scale j0]
/-! ### the law's word -/
structure SzF (u : Tl) (C : Ci) : Prop where
  p : SzP u C
  ex : ∃ k ν c, Bd k (chE u C) ∧ Bd ν (chN u C) ∧ Bd c C.s ∧ c + ν + 2 * k + 1 < 13300
def SzFl : Rm → Prop
  | .meet l m => ∃ j k, BL j l ∧ BL k m ∧ j + k < 800000
  | .cutL l C _ => SzF (.line l) C
  | .cutC A B _ => A.c ≠ B.c → SzF (.circle A) B
  | _ => True
def c_law_fail : Ct := fun ds Q => ∃ mk A r, ds = [mkD mk, atD A] ∧ Res (look A) mk r ∧ SzFl r ∧ Q (.str (failW (made r)))
theorem wordOk : ∀ t : Tl, PyData.canLay0 (.str t.word) = true := by
  intro t
  have a1 : PyData.strOk "at" = true := by decide +kernel
  have a2 : PyData.strOk "line" = true := by decide +kernel
  have a3 : PyData.strOk "circle" = true := by decide +kernel
  have a4 : PyData.strOk "kept" = true := by decide +kernel
  have a5 : PyData.strOk "broken" = true := by decide +kernel
  have a6 : PyData.strOk "gone" = true := by decide +kernel
  cases t with
  | pt _ => exact a1
  | line _ => exact a2
  | circle _ => exact a3
  | kept => exact a4
  | broken => exact a5
  | gone _ _ => exact a6
theorem shaped_tl (t : Tl) (h : ∀ n w, t = .gone n w → PyData.canLay0 (.str n) = true ∧ PyData.canLay0 (.str w) = true := by intro _ _ z; cases z) : SeqAt.shaped (tlD t) = true := by
  have h0 := wordOk t
  cases t with
  | gone n w =>
    obtain ⟨h1, h2⟩ := h n w rfl
    show ((PyData.canLay0 (.str "gone") && (PyData.canLay0 (.str n) && (PyData.canLay0 (.str w) && true))) && decide _) = true
    rw [show PyData.canLay0 (.str "gone") = true from h0, h1, h2]
    rfl
  | pt p =>
    show ((PyData.canLay0 (.str "at") && true) && decide _) = true
    rw [show PyData.canLay0 (.str "at") = true from h0]
    rfl
  | line p =>
    show ((PyData.canLay0 (.str "line") && true) && decide _) = true
    rw [show PyData.canLay0 (.str "line") = true from h0]
    rfl
  | circle p =>
    show ((PyData.canLay0 (.str "circle") && true) && decide _) = true
    rw [show PyData.canLay0 (.str "circle") = true from h0]
    rfl
  | kept =>
    show ((PyData.canLay0 (.str "kept") && true) && decide _) = true
    rw [show PyData.canLay0 (.str "kept") = true from h0]
    rfl
  | broken =>
    show ((PyData.canLay0 (.str "broken") && true) && decide _) = true
    rw [show PyData.canLay0 (.str "broken") = true from h0]
    rfl
theorem eqv_pt (p q : Pl) : PyData.eqv (tlD (.pt p)) (tlD (.pt q)) = decide (p = q) := by
  rw [← eqv_pl]
  show (("at" : Str) == "at" && PyData.eqvAll [fr p.1, fr p.2] [fr q.1, fr q.2]) = PyData.eqvAll [fr p.1, fr p.2] [fr q.1, fr q.2]
  rw [beq_self_eq_true, Bool.true_and]
theorem wordD_eval {d : Rat} {a b : Int} (h0 : 0 ≤ d.num) (a0 : 0 ≤ a) (a1 : a * a ≤ d.num) (a2 : d.num < (a + 1) * (a + 1)) (b0 : 0 ≤ b) (b1 : b * b ≤ (d.den : Int)) (b2 : (d.den : Int) < (b + 1) * (b + 1)) : wordD d = if a * a = d.num ∧ b * b = (d.den : Int) then "" else "root" := by
  unfold wordD
  rw [if_neg (Rat.not_lt.mpr (Rat.num_nonneg.mp h0))]
  have k := root_test h0 a0 a1 a2 b0 b1 b2
  by_cases h : a * a = d.num ∧ b * b = (d.den : Int)
  · rw [if_pos h, if_pos (k.mp h)]
  · rw [if_neg h, if_neg (fun z => h (k.mpr z))]
def failTail : TDS := (dSeq (dUnp [4, 5, 6, 7] (dCall 2 c_law_parts (dCons (dOp gIx (dVar 2) (dC (.int 0))) (dCons (dOp gIx (dVar 2) (dC (.int 1))) dNil))))
    (dSeq (dSet 3 (dCall 2 c_law_less (dCons (dCall 2 c_law_times (dCons (dOp gIx (dOp gIx (dVar 2) (dC (.int 1))) (dC (.int 3))) (dCons (dVar 7) dNil))) (dCons (dCall 2 c_law_times (dCons (dVar 6) (dCons (dVar 6) dNil))) dNil))))
    (dSeq (dSet 3 (dCall 2 c_fraction (dCons (dOp gIx (dVar 3) (dC (.int 0))) (dCons (dOp gIx (dVar 3) (dC (.int 1))) dNil))))
    (dSeq (dIf (dCmpT (cInt fun i j => decide (i < j)) (dOp gIx (dVar 3) (dC (.int 0))) (dC (.int 0))) (dRet (dC (.str "miss"))) dSkip)
    (dSeq (dIf (dAnd (dCmpT cEq (dOp gPow (dCall 1 c_whole_root (dCons (dOp gIx (dVar 3) (dC (.int 0))) dNil)) (dC (.int 2))) (dOp gIx (dVar 3) (dC (.int 0)))) (dCmpT cEq (dOp gPow (dCall 1 c_whole_root (dCons (dOp gIx (dVar 3) (dC (.int 1))) dNil)) (dC (.int 2))) (dOp gIx (dVar 3) (dC (.int 1))))) (dRet (dC (.str ""))) dSkip)
    (dRet (dC (.str "root"))))))))
theorem fail_tail {u : Tl} {C : Ci} {mk at_ : PyData} {Q : PyData → Prop} (hu : tlD u = tlD u) (sz : SzF u C) (hQ : Q (.str (wordD (chD u C)))) : failTail { nx := fun _ => Q .none, rt := Q } [some mk, some at_, some (.list [tlD u, tlD (.circle C)]), none, none, none, none, none, none] := by
  obtain ⟨sp, k, ν, c, bk, bn, bc, l⟩ := sz
  refine ⟨u, C, rfl, sp, rfl, ?_⟩
  refine ⟨_, _, _, _, _, _, rfl, UF.fr bc, UF.fr bn, by omega, fun x1 h1 => ?_⟩
  refine ⟨_, _, _, _, _, _, rfl, UF.fr bk, UF.fr bk, by omega, fun x2 h2 => ?_⟩
  refine ⟨_, _, _, _, _, _, rfl, h1, h2, by omega, fun x3 h3 => ?_⟩
  obtain ⟨a1, b1, rfl, h3⟩ := h3.tup
  have k1 := frac_one (v := chD u C) h3 rfl (by omega)
  have bd : Bd 13300 (chD u C) := h3.bd.mono (by omega)
  refine ⟨_, _, rfl, k1.1, k1.2.1, k1.2.2.1, ?_⟩
  rw [k1.2.2.2]
  generalize chD u C = d at *
  show if decide (d.num < 0) = true then Q (.str "miss") else _
  by_cases h0 : d.num < 0
  · rw [if_pos (decide_eq_true h0)]
    have e : wordD d = "miss" := if_pos (Rat.not_le.mp fun z => by have := Rat.num_nonneg.mpr z; omega)
    rw [e] at hQ
    exact hQ
  · rw [if_neg (by simpa using h0)]
    refine ⟨d.num, rfl, by omega, bd.num, fun a a0 a1 a2 => ?_⟩
    have ba : Bz 13300 a := Bz.le bd.num a0 (by have := le_sq a0; omega)
    refine ⟨⟨by decide, by decide, Nat.lt_of_le_of_lt ba.log (by decide)⟩, ?_⟩
    have e2 : ∀ x : Int, x ^ (2 : Int).toNat = x * x := fun x => by
      show x ^ 2 = x * x
      rw [Int.pow_succ, Int.pow_succ, Int.pow_zero, Int.one_mul]
    rw [e2]
    show if decide (a * a = d.num) = true then _ else _
    by_cases h1 : a * a = d.num
    · rw [if_pos (decide_eq_true h1)]
      refine ⟨(d.den : Int), rfl, by omega, bd.den, fun b b0 b1 b2 => ?_⟩
      have bb : Bz 13300 b := Bz.le bd.den b0 (by have := le_sq b0; omega)
      refine ⟨⟨by decide, by decide, Nat.lt_of_le_of_lt bb.log (by decide)⟩, ?_⟩
      rw [e2]
      have e3 := wordD_eval (d := d) (by omega) a0 a1 a2 b0 b1 b2
      show if decide (b * b = (d.den : Int)) = true then Q (.str "") else Q (.str "root")
      by_cases h2 : b * b = (d.den : Int)
      · rw [if_pos (decide_eq_true h2)]
        rw [e3, if_pos ⟨h1, h2⟩] at hQ
        exact hQ
      · rw [if_neg (by simpa using h2)]
        rw [e3, if_neg (fun z => h2 z.2)] at hQ
        exact hQ
    · rw [if_neg (by simpa using h1)]
      have e3 : wordD d = "root" := by
        unfold wordD
        rw [if_neg (Rat.not_lt.mpr (Rat.num_nonneg.mp (by omega))), if_neg]
        rintro ⟨r, e⟩
        apply h1
        obtain ⟨e1, _⟩ := sq_num_den r
        rw [e] at e1
        have p1 : a = ((r.num.natAbs : Nat) : Int) := root_uniq (a := ((r.num.natAbs : Nat) : Int)) (by omega) (by rw [e1]; exact Int.natAbs_mul_self) a0 a1 a2
        rw [p1, e1]; exact Int.natAbs_mul_self
      rw [e3] at hQ
      exact hQ
theorem rd_law_fail (ds : List PyData) (Q : PyData → Prop) (hl : ds.length = 2) (h : c_law_fail ds Q) : t_law_fail c_whole_root c_fraction c_law_less c_law_times c_law_parts c_grounds { nx := fun _ => Q .none, rt := Q } (startD 9 ds) := by
  obtain ⟨mk, A, r, rfl, hr, sz, hQ⟩ := h
  have each : ∀ (P : PyData → Prop), P (.list ((rts r).map tlD)) → dLcL 8 (dCall 1 c_grounds (dCons (dVar 0) dNil)) dYes (dOp gDGet (dVar 1) (dVar 8)) [some (mkD mk), some (atD A), none, none, none, none, none, none, none] P :=
    fun P p => ⟨mk, rfl, comp_each (δ := [some (mkD mk), some (atD A), none, none, none, none, none, none, none]) (i := 8) (j := 1) rfl (by decide) (by show 8 < 9; decide) hr p⟩
  unfold t_law_fail
  cases hr with
  | free =>
    refine seqSetV (d := .list ((rts _).map tlD)) each ?_
    refine seqIfF (fun P h => h) (seqSkip ?_)
    refine seqIfF (fun P h => h) (seqSkip ?_)
    refine seqIfT (fun P h => h) ?_
    exact hQ
  | middle h1 h2 =>
    refine seqSetV (d := .list ((rts _).map tlD)) each ?_
    refine seqIfF (fun P h => h) (seqSkip ?_)
    refine seqIfF (fun P h => h) (seqSkip ?_)
    refine seqIfT (fun P h => h) ?_
    exact hQ
  | share h1 h2 =>
    refine seqSetV (d := .list ((rts _).map tlD)) each ?_
    refine seqIfF (fun P h => h) (seqSkip ?_)
    refine seqIfF (fun P h => h) (seqSkip ?_)
    refine seqIfT (fun P h => h) ?_
    exact hQ
  | next h1 h2 =>
    refine seqSetV (d := .list ((rts _).map tlD)) each ?_
    refine seqIfF (fun P h => h) (seqSkip ?_)
    refine seqIfF (fun P h => h) (seqSkip ?_)
    refine seqIfT (fun P h => h) ?_
    exact hQ
  | turn h1 h2 =>
    refine seqSetV (d := .list ((rts _).map tlD)) each ?_
    refine seqIfF (fun P h => h) (seqSkip ?_)
    refine seqIfF (fun P h => h) (seqSkip ?_)
    refine seqIfT (fun P h => h) ?_
    exact hQ
  | foot h1 h2 =>
    refine seqSetV (d := .list ((rts _).map tlD)) each ?_
    refine seqIfF (fun P h => h) (seqSkip ?_)
    refine seqIfF (fun P h => h) (seqSkip ?_)
    refine seqIfT (fun P h => h) ?_
    exact hQ
  | mirror h1 h2 =>
    refine seqSetV (d := .list ((rts _).map tlD)) each ?_
    refine seqIfF (fun P h => h) (seqSkip ?_)
    refine seqIfF (fun P h => h) (seqSkip ?_)
    refine seqIfT (fun P h => h) ?_
    exact hQ
  | along h1 h2 =>
    refine seqSetV (d := .list ((rts _).map tlD)) each ?_
    refine seqIfF (fun P h => h) (seqSkip ?_)
    refine seqIfF (fun P h => h) (seqSkip ?_)
    refine seqIfT (fun P h => h) ?_
    exact hQ
  | upright h1 h2 =>
    refine seqSetV (d := .list ((rts _).map tlD)) each ?_
    refine seqIfF (fun P h => h) (seqSkip ?_)
    refine seqIfF (fun P h => h) (seqSkip ?_)
    refine seqIfT (fun P h => h) ?_
    exact hQ
  | inline h1 h2 h3 =>
    have hQ2 : Q (.str "") := by
      have e : ∀ b, failW (keptOr b) = "" := fun b => by cases b <;> rfl
      have hQ := hQ
      unfold made at hQ
      rw [e] at hQ
      exact hQ
    refine seqSetV (d := .list ((rts _).map tlD)) each ?_
    refine seqIfF (fun P h => h) (seqSkip ?_)
    refine seqIfF (fun P h => h) (seqSkip ?_)
    refine seqIfT (fun P h => h) ?_
    exact hQ2
  | round h1 h2 h3 h4 =>
    have hQ2 : Q (.str "") := by
      have e : ∀ b, failW (keptOr b) = "" := fun b => by cases b <;> rfl
      have hQ := hQ
      unfold made at hQ
      rw [e] at hQ
      exact hQ
    refine seqSetV (d := .list ((rts _).map tlD)) each ?_
    refine seqIfF (fun P h => h) (seqSkip ?_)
    refine seqIfF (fun P h => h) (seqSkip ?_)
    refine seqIfT (fun P h => h) ?_
    exact hQ2
  | alike h1 h2 h3 h4 =>
    have hQ2 : Q (.str "") := by
      have e : ∀ b, failW (keptOr b) = "" := fun b => by cases b <;> rfl
      have hQ := hQ
      unfold made at hQ
      rw [e] at hQ
      exact hQ
    refine seqSetV (d := .list ((rts _).map tlD)) each ?_
    refine seqIfF (fun P h => h) (seqSkip ?_)
    refine seqIfF (fun P h => h) (seqSkip ?_)
    refine seqIfT (fun P h => h) ?_
    exact hQ2
  | beside h1 h2 =>
    have hQ2 : Q (.str "") := by
      have e : ∀ b, failW (keptOr b) = "" := fun b => by cases b <;> rfl
      have hQ := hQ
      unfold made at hQ
      rw [e] at hQ
      exact hQ
    refine seqSetV (d := .list ((rts _).map tlD)) each ?_
    refine seqIfF (fun P h => h) (seqSkip ?_)
    refine seqIfF (fun P h => h) (seqSkip ?_)
    refine seqIfT (fun P h => h) ?_
    exact hQ2
  | square h1 h2 =>
    have hQ2 : Q (.str "") := by
      have e : ∀ b, failW (keptOr b) = "" := fun b => by cases b <;> rfl
      have hQ := hQ
      unfold made at hQ
      rw [e] at hQ
      exact hQ
    refine seqSetV (d := .list ((rts _).map tlD)) each ?_
    refine seqIfF (fun P h => h) (seqSkip ?_)
    refine seqIfF (fun P h => h) (seqSkip ?_)
    refine seqIfT (fun P h => h) ?_
    exact hQ2
  | line h1 h2 =>
    rename_i P Q'
    refine seqSetV (d := .list ((rts _).map tlD)) each ?_
    refine seqIfT (fun P h => h) ?_
    refine ⟨⟨shaped_tl (.pt P), shaped_tl (.pt Q')⟩, ?_⟩
    rw [eqv_pt]
    by_cases e : P = Q'
    · rw [decide_eq_true e]
      have e2 : made (.line P Q') = .fails "same" := if_pos e
      rw [e2] at hQ
      exact hQ
    · rw [decide_eq_false e]
      have e2 : made (.line P Q') = .ok (.line (through P Q')) := if_neg e
      rw [e2] at hQ
      exact hQ
  | circle h1 h2 =>
    rename_i P Q'
    refine seqSetV (d := .list ((rts _).map tlD)) each ?_
    refine seqIfT (fun P h => h) ?_
    refine ⟨⟨shaped_tl (.pt P), shaped_tl (.pt Q')⟩, ?_⟩
    rw [eqv_pt]
    by_cases e : P = Q'
    · rw [decide_eq_true e]
      have e2 : made (.circle P Q') = .fails "same" := if_pos e
      rw [e2] at hQ
      exact hQ
    · rw [decide_eq_false e]
      have e2 : made (.circle P Q') = .ok (.circle (about P Q')) := if_neg e
      rw [e2] at hQ
      exact hQ
  | meet h1 h2 =>
    rename_i L M
    obtain ⟨j, k, b1, b2, l⟩ := sz
    refine seqSetV (d := .list ((rts _).map tlD)) each ?_
    refine seqIfF (fun P h => h) (seqSkip ?_)
    refine seqIfT (fun P h => h) ?_
    refine ⟨b1.a.mulW b2.b (by omega), b1.b.mulW b2.a (by omega), ?_⟩
    show (fun b : Bool => gInt (.bool b) fun i => gIx (.list [.str "", .str "parallel"]) i Q) (decide (L.a * M.b = L.b * M.a))
    by_cases e : L.a * M.b = L.b * M.a
    · rw [decide_eq_true e]
      have p : par L M := by unfold par; omega
      have e2 : made (.meet L M) = .fails "parallel" := if_pos p
      rw [e2] at hQ
      exact hQ
    · rw [decide_eq_false e]
      have p : ¬ par L M := by unfold par; omega
      have e2 : made (.meet L M) = .ok (.pt (meet L M)) := if_neg p
      rw [e2] at hQ
      exact hQ
  | cutL h1 h2 =>
    rename_i k L C
    rw [cut_wordL] at hQ
    refine seqSetV (d := .list ((rts _).map tlD)) each ?_
    refine seqIfF (fun P h => h) (seqSkip ?_)
    refine seqIfF (fun P h => h) (seqSkip ?_)
    refine seqIfF (fun P h => h) (seqSkip ?_)
    refine seqIfF (fun P h => h) (seqSkip ?_)
    exact fail_tail (u := .line L) rfl sz hQ
  | cutC h1 h2 =>
    rename_i k L C
    refine seqSetV (d := .list ((rts _).map tlD)) each ?_
    refine seqIfF (fun P h => h) (seqSkip ?_)
    refine seqIfF (fun P h => h) (seqSkip ?_)
    refine seqIfF (fun P h => h) (seqSkip ?_)
    by_cases e : L.c = C.c
    · have e2 : made (.cutC L C k) = .fails "centre" := if_pos e
      rw [e2] at hQ
      refine seqIfT (fun P h => ⟨nw _ _, nw _ _, ⟨⟨rfl, rfl⟩, ?_⟩⟩) ?_
      · show P (PyData.eqv (pl L.c) (pl C.c))
        rw [eqv_pl, decide_eq_true e]
        exact h
      · exact hQ
    · rw [cut_wordC e] at hQ
      refine seqIfF (fun P h => ⟨nw _ _, nw _ _, ⟨⟨rfl, rfl⟩, ?_⟩⟩) (seqSkip ?_)
      · show P (PyData.eqv (pl L.c) (pl C.c))
        rw [eqv_pl, decide_eq_false e]
        exact h
      · exact fail_tail (u := .circle L) rfl (sz e) hQ
end Mb
set_option Elab.async false
set_option linter.all false
set_option maxRecDepth 100000
set_option maxHeartbeats 1000000
namespace Mb
open PySem PySem.Spec PyProof.Rows L2
local macro_rules | `(tactic| walk_at "nrm") => `(tactic| try dsimp only [startD, setAll, gSub, gAdd, gNeg, List.map, List.length, List.replicate, HAppend.hAppend, Append.append, List.append, List.set, Nat.reduceAdd, Nat.reduceSub])
/-! ### which of the two -/
def firstI (x y : Rat) : Int := if x ≠ 0 then (if 0 < x then 2 else 1) else if y ≠ 0 then (if 0 < y then 2 else 1) else 0
def footX (u : Tl) (C : Ci) : Rat := C.x + chA u C * (chE u C / chN u C)
def footY (u : Tl) (C : Ci) : Rat := C.y + chB u C * (chE u C / chN u C)
structure SzW (u : Tl) (C : Ci) (m : Pl) : Prop where
  p : SzP u C
  n : 0 < chN u C
  ex : ∃ β, BP β m ∧ BP β C.c ∧ Bd β (chA u C) ∧ Bd β (chB u C) ∧ Bd β (chE u C) ∧ Bd β (chN u C) ∧ β < 14000
def c_law_first : Ct := fun ds Q => ∃ u C m, ds = [pl m, tlD u, tlD (.circle C)] ∧ SzW u C m ∧ Q (.int (firstI (m.1 - footX u C) (m.2 - footY u C)))
theorem rd_law_first (ds : List PyData) (Q : PyData → Prop) (hl : ds.length = 3) (h : c_law_first ds Q) : t_law_first c_law_less c_law_plus c_law_times c_law_parts { nx := fun _ => Q .none, rt := Q } (startD 10 ds) := by
  obtain ⟨u, C, m, rfl, ⟨sp, hn, β, bm, bc, ba, bb, be, bn, l⟩, hQ⟩ := h
  have cx : Bd β C.x := bc.x
  have cy : Bd β C.y := bc.y
  have hn' : 0 < (chN u C).num := by
    have h1 := Rat.num_nonneg.mpr (Rat.le_of_lt hn)
    have h2 := num_ne (q := chN u C) (fun z => by rw [z] at hn; exact Rat.lt_irrefl hn)
    omega
  unfold t_law_first
  refine seqUnp (ds := [fr (chA u C), fr (chB u C), fr (chE u C), fr (chN u C)]) (fun P h => ⟨u, C, rfl, sp, h⟩) rfl ?_
  walk_at "nrm"
  refine seqSetV (d := .tuple [.int ((chE u C).num * ((chN u C).den : Int)), .int (((chE u C).den : Int) * (chN u C).num)]) (fun P h => ⟨be.num.mulW bn.den (by omega), be.den.mulW bn.num (by omega), h⟩) ?_
  have hp : UF (β + β) (chE u C / chN u C) (.tuple [.int ((chE u C).num * ((chN u C).den : Int)), .int (((chE u C).den : Int) * (chN u C).num)]) := by
    refine ⟨_, _, rfl, Int.mul_pos (den_pos' _) hn', ?_, be.num.mul bn.den, be.den.mul bn.num⟩
    have n0 : chN u C ≠ 0 := fun z => by rw [z] at hn; exact Rat.lt_irrefl hn
    have e := div_nd (chE u C) (chN u C) n0
    have z0 : ((((chE u C).den : Int) * (chN u C).num : Int) : Rat) ≠ 0 := posR (Int.mul_pos (den_pos' _) hn')
    rw [← e]
    generalize (((chE u C).num * ((chN u C).den : Int) : Int) : Rat) = x at *
    generalize ((((chE u C).den : Int) * (chN u C).num : Int) : Rat) = y at *
    grind
  walk_at "nrm"
  refine ⟨_, _, _, _, _, _, rfl, UF.fr ba, hp, by omega, fun x1 h1 => ?_⟩
  refine ⟨_, _, _, _, _, _, rfl, UF.fr cx, h1, by omega, fun x2 h2 => ?_⟩
  refine ⟨_, _, _, _, _, _, rfl, UF.fr bm.x, h2, by omega, fun x3 h3 => ?_⟩
  refine ⟨_, _, _, _, _, _, rfl, UF.fr bb, hp, by omega, fun y1 g1 => ?_⟩
  refine ⟨_, _, _, _, _, _, rfl, UF.fr cy, g1, by omega, fun y2 g2 => ?_⟩
  refine ⟨_, _, _, _, _, _, rfl, UF.fr bm.y, g2, by omega, fun y3 g3 => ?_⟩
  obtain ⟨a, b, rfl, h3⟩ := h3.tup
  obtain ⟨c, d, rfl, g3⟩ := g3.tup
  walk_at "nrm"
  have hx : m.1 - (C.x + chA u C * (chE u C / chN u C)) = m.1 - footX u C := rfl
  have hy : m.2 - (C.y + chB u C * (chE u C / chN u C)) = m.2 - footY u C := rfl
  rw [hx] at h3
  rw [hy] at g3
  have z1 := h3.zero_iff
  have z2 := h3.pos_iff
  have z3 := g3.zero_iff
  have z4 := g3.pos_iff
  unfold firstI at hQ
  generalize m.1 - footX u C = X at *
  generalize m.2 - footY u C = Y at *
  have end_ : ∀ z : Rat, (v : Int) → decide (0 < v) = decide (0 < z) → Q (.int (if 0 < z then 2 else 1)) → gIx (.list [.int 1, .int 2]) (.int (if decide (0 < v) = true then 1 else 0)) Q := fun z v e q => by
    rw [e]
    by_cases w : 0 < z
    · rw [decide_eq_true w, if_pos rfl]
      rw [if_pos w] at q
      exact q
    · rw [decide_eq_false w, if_neg (by decide)]
      rw [if_neg w] at q
      exact q
  by_cases e1 : X = 0
  · rw [decide_eq_true e1] at z1
    rw [if_neg (by simpa using e1)] at hQ
    refine seqIfF (fun P h => (show P (!decide (a = 0)) by rw [z1]; exact h)) (seqSkip ?_)
    by_cases e2 : Y = 0
    · rw [decide_eq_true e2] at z3
      rw [if_neg (by simpa using e2)] at hQ
      refine seqIfF (fun P h => (show P (!decide (c = 0)) by rw [z3]; exact h)) (seqSkip ?_)
      exact hQ
    · rw [decide_eq_false e2] at z3
      rw [if_pos e2] at hQ
      refine seqIfT (fun P h => (show P (!decide (c = 0)) by rw [z3]; exact h)) ?_
      exact end_ Y c z4 hQ
  · rw [decide_eq_false e1] at z1
    rw [if_pos e1] at hQ
    refine seqIfT (fun P h => (show P (!decide (a = 0)) by rw [z1]; exact h)) ?_
    exact end_ X a z2 hQ
end Mb
set_option Elab.async false
set_option linter.all false
set_option maxRecDepth 100000
set_option maxHeartbeats 1000000
namespace Mb
open PySem PySem.Spec PyProof.Rows L2
local macro_rules | `(tactic| walk_at "nrm") => `(tactic| try dsimp only [startD, setAll, gSub, gAdd, gNeg, List.map, List.length, List.replicate, HAppend.hAppend, Append.append, List.append, List.set, Nat.reduceAdd, Nat.reduceSub])
/-! ### what a cut keeps -/
theorem cutR_ok {l : Ln} {C : Ci} {k : Int} {m : Pl} (h : cutR l C k = .ok (.pt m)) : ∃ r : Rat, 0 ≤ r ∧ r * r = dR l C ∧ m = if k = 1 then cutFst l C r else cutSnd l C r := by
  by_cases h0 : dR l C < 0
  · rw [cutR_miss h0] at h; cases h
  · have h1 : 0 ≤ dR l C := Rat.not_lt.mp h0
    by_cases hr : ∃ r : Rat, r * r = dR l C
    · obtain ⟨r, e⟩ := hr
      rcases (Rat.le_total : (0 : Rat) ≤ r ∨ r ≤ 0) with q | q
      · rw [cutR_root h1 q e] at h
        exact ⟨r, q, e, okpt h⟩
      · rw [cutR_root (r := -r) h1 (by grind) (by grind)] at h
        exact ⟨-r, by grind, by grind, okpt h⟩
    · rw [cutR_none h1 fun r e => hr ⟨r, e⟩] at h; cases h
theorem cutOne_line {l : Ln} (nl : Nm l) (C : Ci) (r : Rat) : offR (cutOne l C r) l = 0 ∧ offR (cutTwo l C r) l = 0 := by
  have n0 := nR_ne nl
  have e := nR_eq l
  unfold offR cutOne cutTwo mX mY rX rY eR Ci.c
  generalize nR l = n at *
  unfold nQ at e
  generalize (l.a : Rat) = a at *
  generalize (l.b : Rat) = b at *
  generalize (l.c : Rat) = c at *
  constructor <;> (simp only []; grind)
theorem cutOne_ring {l : Ln} (nl : Nm l) (C : Ci) {r : Rat} (h : r * r = dR l C) : sqb (cutOne l C r) C.c = C.s ∧ sqb (cutTwo l C r) C.c = C.s := by
  have n0 := nR_ne nl
  have e := nR_eq l
  unfold dR at h
  unfold sqb cutOne cutTwo mX mY rX rY Ci.c
  unfold Ci.c at h
  generalize eR l (C.x, C.y) = ee at *
  generalize nR l = n at *
  unfold nQ at e
  generalize (l.a : Rat) = a at *
  generalize (l.b : Rat) = b at *
  constructor <;> (simp only []; grind)
theorem cut_fs (P : Pl → Prop) {l : Ln} {C : Ci} {r : Rat} (h1 : P (cutOne l C r)) (h2 : P (cutTwo l C r)) (k : Int) : P (if k = 1 then cutFst l C r else cutSnd l C r) := by
  unfold cutFst cutSnd
  split <;> split <;> assumption
theorem first_fst (l : Ln) (C : Ci) (r : Rat) : firstI ((cutFst l C r).1 - mX l C) ((cutFst l C r).2 - mY l C) = 0 ∨ firstI ((cutFst l C r).1 - mX l C) ((cutFst l C r).2 - mY l C) = 1 := by
  unfold cutFst aheadB cutTwo cutOne firstI
  generalize mX l C = X
  generalize mY l C = Y
  generalize rX l r = u
  generalize rY l r = v
  grind
theorem first_snd (l : Ln) (C : Ci) (r : Rat) : firstI ((cutSnd l C r).1 - mX l C) ((cutSnd l C r).2 - mY l C) = 0 ∨ firstI ((cutSnd l C r).1 - mX l C) ((cutSnd l C r).2 - mY l C) = 2 := by
  unfold cutSnd aheadB cutTwo cutOne firstI
  generalize mX l C = X
  generalize mY l C = Y
  generalize rX l r = u
  generalize rY l r = v
  grind
theorem first_of (l : Ln) (C : Ci) (r : Rat) {k : Int} (hk : k = 1 ∨ k = 2) {m : Pl} (e : m = if k = 1 then cutFst l C r else cutSnd l C r) : firstI (m.1 - mX l C) (m.2 - mY l C) = 0 ∨ firstI (m.1 - mX l C) (m.2 - mY l C) = k := by
  subst e
  rcases hk with rfl | rfl
  · rw [if_pos rfl]; exact first_fst l C r
  · rw [if_neg (by decide)]; exact first_snd l C r
theorem foot_line (l : Ln) (C : Ci) : footX (.line l) C = mX l C ∧ footY (.line l) C = mY l C := by
  have e := nR_eq l
  unfold footX footY mX mY
  have e1 : chE (.line l) C = eR l C.c := rfl
  have e2 : chN (.line l) C = nR l := e.symm
  rw [e1, e2]
  constructor <;> (show _ + _ * (_ / _) = _; rw [Rat.div_def, Rat.div_def, Rat.mul_assoc]; rfl)
/-- by either circle the same foot -/
theorem foot_ring {A B : Ci} (h : A.c ≠ B.c) : footX (.circle A) B = mX (betw A B) A ∧ footY (.circle A) B = mY (betw A B) A := by
  obtain ⟨k, k0, ea, eb, ec⟩ := betw_scale h
  have n1 := nR_ne (betw_nm h)
  have e := nR_eq (betw A B)
  unfold footX footY mX mY chE chN eR chA chB chC
  rw [ea, eb, ec] at *
  generalize nR (betw A B) = n at *
  unfold nQ at *
  unfold eQ Ci.c
  simp only []
  have e1 : btA A B = 2 * (B.x - A.x) := rfl
  have e2 : btB A B = 2 * (B.y - A.y) := rfl
  have e3 : btC A B = (A.s - (A.x * A.x + A.y * A.y)) - (B.s - (B.x * B.x + B.y * B.y)) := rfl
  generalize btA A B = a at *
  generalize btB A B = b at *
  generalize btC A B = c at *
  have n2 : a * a + b * b ≠ 0 := fun z => n1 (by rw [e]; grind)
  constructor <;> grind
theorem on_other {A B : Ci} (h : A.c ≠ B.c) {m : Pl} (h1 : offR m (betw A B) = 0) (h2 : sqb m A.c = A.s) : sqb m B.c = B.s := by
  obtain ⟨k, k0, ea, eb, ec⟩ := betw_scale h
  unfold offR at h1
  rw [ea, eb, ec] at h1
  have e1 : btA A B = 2 * (B.x - A.x) := rfl
  have e2 : btB A B = 2 * (B.y - A.y) := rfl
  have e3 : btC A B = (A.s - (A.x * A.x + A.y * A.y)) - (B.s - (B.x * B.x + B.y * B.y)) := rfl
  have h3 : k * (btA A B * m.1 + btB A B * m.2 - btC A B) = 0 := by grind
  rcases Rat.mul_eq_zero.mp h3 with q | q
  · exact absurd q k0
  · unfold sqb Ci.c at h2 ⊢
    simp only [] at h2 ⊢
    rw [e1, e2, e3] at q
    grind
theorem chN_pos {A B : Ci} (h : A.c ≠ B.c) : 0 < chN (.circle A) B := by
  show 0 < btA A B * btA A B + btB A B * btB A B
  have hn : ¬ (btA A B = 0 ∧ btB A B = 0) := fun ⟨z1, z2⟩ => h (Prod.ext (sub0 (two_mul0 z1)).symm (sub0 (two_mul0 z2)).symm)
  have sq0 : ∀ x : Rat, 0 ≤ x * x := fun x => by
    rcases (Rat.le_total : (0 : Rat) ≤ x ∨ x ≤ 0) with q | q
    · exact Rat.mul_nonneg q q
    · have := Rat.mul_nonneg (show (0 : Rat) ≤ -x by grind) (show (0 : Rat) ≤ -x by grind)
      grind
  have a0 := sq0 (btA A B)
  have b0 := sq0 (btB A B)
  by_cases z : btA A B = 0
  · have z2 : btB A B ≠ 0 := fun w => hn ⟨z, w⟩
    have := sq_pos z2
    grind
  · have := sq_pos z
    grind
/-- what the law asks of a cut -/
structure CutK (u : Tl) (C : Ci) (k : Int) (m : Pl) : Prop where
  first : firstI (m.1 - footX u C) (m.2 - footY u C) = 0 ∨ firstI (m.1 - footX u C) (m.2 - footY u C) = k
  ring : sqb m C.c = C.s
theorem cutL_keeps {l : Ln} {C : Ci} {k : Int} {m : Pl} (nl : Nm l) (hk : k = 1 ∨ k = 2) (h : made (.cutL l C k) = .ok (.pt m)) : CutK (.line l) C k m ∧ offR m l = 0 := by
  obtain ⟨r, r0, e, hm⟩ := cutR_ok h
  obtain ⟨f1, f2⟩ := foot_line l C
  refine ⟨⟨by rw [f1, f2]; exact first_of l C r hk hm, ?_⟩, ?_⟩
  · rw [hm]
    exact cut_fs (fun m => sqb m C.c = C.s) (cutOne_ring nl C e).1 (cutOne_ring nl C e).2 k
  · rw [hm]
    exact cut_fs (fun m => offR m l = 0) (cutOne_line nl C r).1 (cutOne_line nl C r).2 k
theorem cutC_keeps {A B : Ci} {k : Int} {m : Pl} (hk : k = 1 ∨ k = 2) (h : made (.cutC A B k) = .ok (.pt m)) : A.c ≠ B.c ∧ CutK (.circle A) B k m ∧ sqb m A.c = A.s := by
  have ne : A.c ≠ B.c := fun z => by
    have e : made (.cutC A B k) = .fails "centre" := if_pos z
    rw [e] at h
    cases h
  have e : made (.cutC A B k) = cutR (betw A B) A k := if_neg ne
  rw [e] at h
  obtain ⟨r, r0, e, hm⟩ := cutR_ok h
  obtain ⟨f1, f2⟩ := foot_ring ne
  have nl := betw_nm ne
  have on : sqb m A.c = A.s := by
    rw [hm]
    exact cut_fs (fun m => sqb m A.c = A.s) (cutOne_ring nl A e).1 (cutOne_ring nl A e).2 k
  have off : offR m (betw A B) = 0 := by
    rw [hm]
    exact cut_fs (fun m => offR m (betw A B) = 0) (cutOne_line nl A r).1 (cutOne_line nl A r).2 k
  exact ⟨ne, ⟨by rw [f1, f2]; exact first_of _ A r hk hm, on_other ne off on⟩, on⟩
end Mb
set_option Elab.async false
set_option linter.all false
set_option maxRecDepth 100000
set_option maxHeartbeats 1000000
namespace Mb
open PySem PySem.Spec PyProof.Rows L2
local macro_rules | `(tactic| walk_at "nrm") => `(tactic| try dsimp only [startD, setAll, gSub, gAdd, gNeg, List.map, List.length, List.replicate, HAppend.hAppend, Append.append, List.append, List.set, Nat.reduceAdd, Nat.reduceSub])
/-! ### the law's test of a telling -/
def SzK (n : Nat) : Rm → Prop
  | .inline p q r => SzS n (.inline p q r)
  | .round p q r s => SzS n (.round p q r s)
  | .alike p q r s => SzS n (.alike p q r s)
  | .beside l m => SzS n (.beside l m)
  | .square l m => SzS n (.square l m)
  | .cutL l C k => SzF (.line l) C ∧ (k = 1 ∨ k = 2)
  | .cutC A B k => (A.c ≠ B.c → SzF (.circle A) B) ∧ (k = 1 ∨ k = 2)
  | _ => True
def c_law_fits : Ct := fun ds Q => ∃ mk A r t n, ds = [mkD mk, tlD t, atD A] ∧ Res (look A) mk r ∧ made r = .ok t ∧ SzG n r ∧ SzT n t ∧ SzK n r ∧ Q (.bool true)
theorem eqv_word (w : Str) : PyData.eqv (.tuple [.str w]) (.tuple [.str w]) = true := by
  show (w == w && true) = true
  rw [beq_self_eq_true]
  rfl
theorem told_len {t : Tl} {P : Bool → Prop} (h : P false) : gLen (tlD t) fun d => cEq d (.int 0) P := by
  show P (decide ((((PyData.str t.word :: t.rest).length : Nat) : Int) = 0))
  rw [decide_eq_false (by simp; omega)]
  exact h
theorem SzF.w {u : Tl} {C : Ci} {n : Nat} {m : Pl} (s : SzF u C) (hn : n < 9000) (bm : BP n m) (bc : BP n C.c) (h : 0 < chN u C) : SzW u C m := by
  obtain ⟨p, k, ν, c, bk, bn, _, l⟩ := s
  refine ⟨p, h, 13500, bm.mono (by omega), bc.mono (by omega), ?_, ?_, bk.mono (by omega), bn.mono (by omega), by decide⟩
  · obtain ⟨_, α, γ, m', ba, bb, _, _, l1, l2⟩ := p
    exact ba.mono (by omega)
  · obtain ⟨_, α, γ, m', ba, bb, _, _, l1, l2⟩ := p
    exact bb.mono (by omega)
theorem inD_first {i k : Int} (h : i = 0 ∨ i = k) : inD (.int i) [.int 0, .int k] = true := by
  show ((0 : Int) == i || ((k : Int) == i || false)) = true
  rcases h with rfl | rfl <;> simp
theorem rd_law_fits (ds : List PyData) (Q : PyData → Prop) (hl : ds.length = 3) (h : c_law_fits ds Q) : t_law_fits c_law_first c_law_even c_law_near c_law_off c_law_point c_law_is_frac c_law_is_place c_law_line_fits c_grounds c_law_so c_sort_of { nx := fun _ => Q .none, rt := Q } (startD 8 ds) := by
  obtain ⟨mk, A, r, t, n, rfl, hr, hm, sz, st, sk, hQ⟩ := h
  have n0 := sz.pos
  have n1 := sz.low
  have g := sz.g
  have each : ∀ (w : PyData) (P : PyData → Prop), P (.list ((rts r).map restD)) → dLcL 7 (dCall 1 c_grounds (dCons (dVar 0) dNil)) dYes (dSl (dOp gDGet (dVar 2) (dVar 7)) (dP (dC (.int 1))) dNoP) [some (mkD mk), some (tlD t), some (atD A), some w, none, none, none, none] P :=
    fun w P p => ⟨mk, rfl, comp_bareA (δ := [some (mkD mk), some (tlD t), some (atD A), some w, none, none, none, none]) (i := 7) (j := 2) rfl (by decide) (by show 7 < 8; decide) hr p⟩
  have so : ∀ b, made r = keptOr b → SzS n r → (dRet (dCmpV cEq (dVar 1) (dTup (dCons (dOp gIx (dLst (dCons (dC (.str "broken")) (dCons (dC (.str "kept")) dNil))) (dUn gInt (dCall 2 c_law_so (dCons (dVar 0) (dCons (dVar 2) dNil))))) dNil)))) { nx := fun _ => Q .none, rt := Q } [some (mkD mk), some (tlD t), some (atD A), some (.str "claim"), none, none, none, none] := fun b e s => by
    rw [e] at hm
    cases b with
    | true =>
      have : t = .kept := by injection hm with hm; exact hm.symm
      subst this
      refine ⟨mk, A, r, n, true, rfl, hr, s, n1, e, ?_⟩
      refine ⟨⟨shaped_tl .kept, shaped_tl .kept⟩, ?_⟩
      show Q (.bool (PyData.eqv (.tuple [.str "kept"]) (.tuple [.str "kept"])))
      rw [eqv_word]
      exact hQ
    | false =>
      have : t = .broken := by injection hm with hm; exact hm.symm
      subst this
      refine ⟨mk, A, r, n, false, rfl, hr, s, n1, e, ?_⟩
      refine ⟨⟨shaped_tl .broken, shaped_tl .broken⟩, ?_⟩
      show Q (.bool (PyData.eqv (.tuple [.str "broken"]) (.tuple [.str "broken"])))
      rw [eqv_word]
      exact hQ
  unfold t_law_fits
  refine seqIfF (fun P h => ⟨true, isi_tt _, told_len h⟩) (seqSkip ?_)
  refine seqSetV (d := .str mk.sort) (fun P h => ⟨mk, rfl, h⟩) ?_
  walk_at "nrm"
  cases hr with
  | inline h1 h2 h3 =>
    refine seqIfT (fun P h => h) ?_
    exact so _ rfl sk
  | round h1 h2 h3 h4 =>
    refine seqIfT (fun P h => h) ?_
    exact so _ rfl sk
  | alike h1 h2 h3 h4 =>
    refine seqIfT (fun P h => h) ?_
    exact so _ rfl sk
  | beside h1 h2 =>
    refine seqIfT (fun P h => h) ?_
    exact so _ rfl sk
  | square h1 h2 =>
    refine seqIfT (fun P h => h) ?_
    exact so _ rfl sk
  | line h1 h2 =>
    rename_i P Q'
    have np : P ≠ Q' := fun z => by
      have e2 : made (.line P Q') = .fails "same" := if_pos z
      rw [e2] at hm
      cases hm
    have e2 : made (.line P Q') = .ok (.line (through P Q')) := if_neg np
    have hm' := hm
    rw [e2] at hm
    injection hm with hm
    subst hm
    refine seqIfF (fun P h => h) (seqSkip ?_)
    refine seqSetV (d := .list ((rts _).map restD)) (fun P p => each (.str "line") P p) ?_
    refine seqIfT (fun P h => h) ?_
    exact ⟨nw _ _, look A, _, _, _, n, rfl, by first | exact .line h1 h2 | exact .along h1 h2 | exact .upright h1 h2, trivial, hm', st.2, sz, hQ⟩
  | along h1 h2 =>
    have hm' := hm
    injection hm with hm
    subst hm
    refine seqIfF (fun P h => h) (seqSkip ?_)
    refine seqSetV (d := .list ((rts _).map restD)) (fun P p => each (.str "line") P p) ?_
    refine seqIfT (fun P h => h) ?_
    exact ⟨nw _ _, look A, _, _, _, n, rfl, by first | exact .line h1 h2 | exact .along h1 h2 | exact .upright h1 h2, trivial, hm', st.2, sz, hQ⟩
  | upright h1 h2 =>
    have hm' := hm
    injection hm with hm
    subst hm
    refine seqIfF (fun P h => h) (seqSkip ?_)
    refine seqSetV (d := .list ((rts _).map restD)) (fun P p => each (.str "line") P p) ?_
    refine seqIfT (fun P h => h) ?_
    exact ⟨nw _ _, look A, _, _, _, n, rfl, by first | exact .line h1 h2 | exact .along h1 h2 | exact .upright h1 h2, trivial, hm', st.2, sz, hQ⟩
  | free =>
    injection hm with hm
    subst hm
    refine seqIfF (fun P h => h) (seqSkip ?_)
    refine seqSetV (d := .list ((rts _).map restD)) (fun P p => each (.str "point") P p) ?_
    refine seqIfF (fun P h => h) (seqSkip ?_)
    refine seqIfF (fun P h => ⟨nw _ _, (_, _), rfl, h⟩) (seqSkip ?_)
    refine seqIfF (fun P h => h) (seqSkip ?_)
    refine seqIfF (fun P h => h) (seqSkip ?_)
    refine seqIfT (fun P h => h) ?_
    refine ⟨nw _ _, nw _ _, ⟨rfl, rfl⟩, ?_⟩
    rename_i x y
    show Q (.bool (PyData.eqv (pl (x, y)) (pl (x, y))))
    rw [eqv_pl, decide_eq_true rfl]
    exact hQ
  | middle h1 h2 =>
    have hm' := hm
    injection hm with hm
    subst hm
    refine seqIfF (fun P h => h) (seqSkip ?_)
    refine seqSetV (d := .list ((rts _).map restD)) (fun P p => each (.str "point") P p) ?_
    refine seqIfF (fun P h => h) (seqSkip ?_)
    refine seqIfF (fun P h => ⟨nw _ _, _, rfl, h⟩) (seqSkip ?_)
    refine seqIfF (fun P h => h) (seqSkip ?_)
    refine seqIfF (fun P h => h) (seqSkip ?_)
    refine seqIfF (fun P h => h) (seqSkip ?_)
    refine seqIfT (fun P h => h) ?_
    exact ⟨nw _ _, look A, _, _, _, n, rfl, .middle h1 h2, trivial, hm', st, sz, hQ⟩
  | share h1 h2 =>
    have hm' := hm
    injection hm with hm
    subst hm
    refine seqIfF (fun P h => h) (seqSkip ?_)
    refine seqSetV (d := .list ((rts _).map restD)) (fun P p => each (.str "point") P p) ?_
    refine seqIfF (fun P h => h) (seqSkip ?_)
    refine seqIfF (fun P h => ⟨nw _ _, _, rfl, h⟩) (seqSkip ?_)
    refine seqIfF (fun P h => h) (seqSkip ?_)
    refine seqIfF (fun P h => h) (seqSkip ?_)
    refine seqIfF (fun P h => h) (seqSkip ?_)
    refine seqIfT (fun P h => h) ?_
    exact ⟨nw _ _, look A, _, _, _, n, rfl, .share h1 h2, trivial, hm', st, sz, hQ⟩
  | next h1 h2 =>
    have hm' := hm
    injection hm with hm
    subst hm
    refine seqIfF (fun P h => h) (seqSkip ?_)
    refine seqSetV (d := .list ((rts _).map restD)) (fun P p => each (.str "point") P p) ?_
    refine seqIfF (fun P h => h) (seqSkip ?_)
    refine seqIfF (fun P h => ⟨nw _ _, _, rfl, h⟩) (seqSkip ?_)
    refine seqIfF (fun P h => h) (seqSkip ?_)
    refine seqIfF (fun P h => h) (seqSkip ?_)
    refine seqIfF (fun P h => h) (seqSkip ?_)
    refine seqIfT (fun P h => h) ?_
    exact ⟨nw _ _, look A, _, _, _, n, rfl, .next h1 h2, trivial, hm', st, sz, hQ⟩
  | turn h1 h2 =>
    have hm' := hm
    injection hm with hm
    subst hm
    refine seqIfF (fun P h => h) (seqSkip ?_)
    refine seqSetV (d := .list ((rts _).map restD)) (fun P p => each (.str "point") P p) ?_
    refine seqIfF (fun P h => h) (seqSkip ?_)
    refine seqIfF (fun P h => ⟨nw _ _, _, rfl, h⟩) (seqSkip ?_)
    refine seqIfF (fun P h => h) (seqSkip ?_)
    refine seqIfF (fun P h => h) (seqSkip ?_)
    refine seqIfF (fun P h => h) (seqSkip ?_)
    refine seqIfT (fun P h => h) ?_
    exact ⟨nw _ _, look A, _, _, _, n, rfl, .turn h1 h2, trivial, hm', st, sz, hQ⟩
  | foot h1 h2 =>
    have hm' := hm
    injection hm with hm
    subst hm
    refine seqIfF (fun P h => h) (seqSkip ?_)
    refine seqSetV (d := .list ((rts _).map restD)) (fun P p => each (.str "point") P p) ?_
    refine seqIfF (fun P h => h) (seqSkip ?_)
    refine seqIfF (fun P h => ⟨nw _ _, _, rfl, h⟩) (seqSkip ?_)
    refine seqIfF (fun P h => h) (seqSkip ?_)
    refine seqIfF (fun P h => h) (seqSkip ?_)
    refine seqIfF (fun P h => h) (seqSkip ?_)
    refine seqIfT (fun P h => h) ?_
    exact ⟨nw _ _, look A, _, _, _, n, rfl, .foot h1 h2, trivial, hm', st, sz, hQ⟩
  | mirror h1 h2 =>
    have hm' := hm
    injection hm with hm
    subst hm
    refine seqIfF (fun P h => h) (seqSkip ?_)
    refine seqSetV (d := .list ((rts _).map restD)) (fun P p => each (.str "point") P p) ?_
    refine seqIfF (fun P h => h) (seqSkip ?_)
    refine seqIfF (fun P h => ⟨nw _ _, _, rfl, h⟩) (seqSkip ?_)
    refine seqIfF (fun P h => h) (seqSkip ?_)
    refine seqIfF (fun P h => h) (seqSkip ?_)
    refine seqIfF (fun P h => h) (seqSkip ?_)
    refine seqIfT (fun P h => h) ?_
    exact ⟨nw _ _, look A, _, _, _, n, rfl, .mirror h1 h2, trivial, hm', st, sz, hQ⟩
  | meet h1 h2 =>
    rename_i L M
    have np : ¬ par L M := fun z => by
      have e2 : made (.meet L M) = .fails "parallel" := if_pos z
      rw [e2] at hm
      cases hm
    have e2 : made (.meet L M) = .ok (.pt (meet L M)) := if_neg np
    have hm' := hm
    rw [e2] at hm
    injection hm with hm
    subst hm
    refine seqIfF (fun P h => h) (seqSkip ?_)
    refine seqSetV (d := .list ((rts _).map restD)) (fun P p => each (.str "point") P p) ?_
    refine seqIfF (fun P h => h) (seqSkip ?_)
    refine seqIfF (fun P h => ⟨nw _ _, _, rfl, h⟩) (seqSkip ?_)
    refine seqIfF (fun P h => h) (seqSkip ?_)
    refine seqIfF (fun P h => h) (seqSkip ?_)
    refine seqIfF (fun P h => h) (seqSkip ?_)
    refine seqIfT (fun P h => h) ?_
    exact ⟨nw _ _, look A, _, _, _, n, rfl, .meet h1 h2, trivial, hm', st, sz, hQ⟩
  | circle h1 h2 =>
    rename_i P Q'
    have np : P ≠ Q' := fun z => by
      have e2 : made (.circle P Q') = .fails "same" := if_pos z
      rw [e2] at hm
      cases hm
    have e2 : made (.circle P Q') = .ok (.circle (about P Q')) := if_neg np
    rw [e2] at hm
    injection hm with hm
    subst hm
    have b1 := g (.pt P) (by simp [rts])
    have b2 := g (.pt Q') (by simp [rts])
    refine seqIfF (fun P h => h) (seqSkip ?_)
    refine seqSetV (d := .list ((rts _).map restD)) (fun P p => each (.str "circle") P p) ?_
    refine seqIfF (fun P h => h) (seqSkip ?_)
    refine seqIfF (fun P h => ⟨nw _ _, (_, _), rfl, h⟩) (seqSkip ?_)
    refine seqIfT (fun P h => h) ?_
    refine seqIfF (fun P' h => ⟨nw _ _, ⟨rfl, rfl⟩, ?_⟩) (seqSkip ?_)
    · show P' (!PyData.eqv (pl P) (pl P))
      rw [eqv_pl, decide_eq_true rfl]
      exact h
    refine ⟨_, rfl, ?_⟩
    refine ⟨_, _, _, _, _, _, rfl, PF2.pl b1, PF2.pl b2, by omega, fun x hx => ?_⟩
    refine ⟨_, _, _, _, _, _, rfl, UF.fr st.2, hx, by omega, ?_⟩
    rw [show decide ((about P Q').s = sqb P Q') = true from decide_eq_true rfl]
    exact hQ
  | cutL h1 h2 =>
    rename_i k U C
    obtain ⟨m, rfl⟩ : ∃ m, t = .pt m := by
      have ok : ∀ {l : Ln} {D : Ci} {k : Int} {t : Tl}, cutR l D k = .ok t → ∃ m, t = .pt m := fun {l D k t} e => by
        unfold cutR at e
        split at e
        · cases e
        · split at e
          · injection e with e; exact ⟨_, e.symm⟩
          · cases e
      exact ok hm
    obtain ⟨K, off⟩ := cutL_keeps (sz.g (.line U) (by simp [rts])).1 sk.2 hm
    have bu := g (.line U) (by simp [rts])
    have bc := g (.circle C) (by simp [rts])
    have sf := sk.1
    have hN : 0 < chN (.line U) C := by
      have := nR_pos bu.1
      rw [nR_eq] at this
      exact this
    refine seqIfF (fun P h => h) (seqSkip ?_)
    refine seqSetV (d := .list ((rts _).map restD)) (fun P p => each (.str "point") P p) ?_
    refine seqIfF (fun P h => h) (seqSkip ?_)
    refine seqIfF (fun P h => ⟨nw _ _, m, rfl, h⟩) (seqSkip ?_)
    refine seqIfF (fun P h => h) (seqSkip ?_)
    refine seqIfF (fun P h => h) (seqSkip ?_)
    refine seqIfF (fun P h => h) (seqSkip ?_)
    refine seqIfF (fun P h => h) (seqSkip ?_)
    refine seqSetV (d := tlD (.line U)) (fun P p => gDGet_kv h1 p) ?_
    refine seqSetV (d := tlD (.circle C)) (fun P p => gDGet_kv h2 p) ?_
    refine seqIfF (fun P' h => ⟨nw _ _, nw _ _, off_ne (PF2.pl st) bu.2 n0 (by omega) off h⟩) (seqSkip ?_)
    refine seqIfF (fun P h => h) (seqSkip ?_)
    refine seqIfF (fun P' h => ⟨nw _ _, nw _ _, _, _, _, _, _, _, rfl, PF2.pl st, PF2.pl bc.1, by omega, fun x hx => ⟨_, _, _, _, _, _, rfl, hx, UF.fr bc.2, by omega, ?_⟩⟩) (seqSkip ?_)
    · rw [decide_eq_true K.ring]; exact h
    refine ⟨nw _ _, .line U, C, m, rfl, sf.w n1 st bc.1 hN, ⟨rfl, rfl⟩, ?_⟩
    rw [show inD _ _ = true from inD_first K.first]
    exact hQ
  | cutC h1 h2 =>
    rename_i k U C
    obtain ⟨m, rfl⟩ : ∃ m, t = .pt m := by
      have ok : ∀ {l : Ln} {D : Ci} {k : Int} {t : Tl}, cutR l D k = .ok t → ∃ m, t = .pt m := fun {l D k t} e => by
        unfold cutR at e
        split at e
        · cases e
        · split at e
          · injection e with e; exact ⟨_, e.symm⟩
          · cases e
      have ne : U.c ≠ C.c := fun z => by
        have e : made (.cutC U C k) = .fails "centre" := if_pos z
        rw [e] at hm
        cases hm
      have e : made (.cutC U C k) = cutR (betw U C) U k := if_neg ne
      rw [e] at hm
      exact ok hm
    obtain ⟨ne, K, on⟩ := cutC_keeps sk.2 hm
    have bu := g (.circle U) (by simp [rts])
    have bc := g (.circle C) (by simp [rts])
    have sf := sk.1 ne
    have hN := chN_pos ne
    refine seqIfF (fun P h => h) (seqSkip ?_)
    refine seqSetV (d := .list ((rts _).map restD)) (fun P p => each (.str "point") P p) ?_
    refine seqIfF (fun P h => h) (seqSkip ?_)
    refine seqIfF (fun P h => ⟨nw _ _, m, rfl, h⟩) (seqSkip ?_)
    refine seqIfF (fun P h => h) (seqSkip ?_)
    refine seqIfF (fun P h => h) (seqSkip ?_)
    refine seqIfF (fun P h => h) (seqSkip ?_)
    refine seqIfF (fun P h => h) (seqSkip ?_)
    refine seqSetV (d := tlD (.circle U)) (fun P p => gDGet_kv h1 p) ?_
    refine seqSetV (d := tlD (.circle C)) (fun P p => gDGet_kv h2 p) ?_
    refine seqIfF (fun P h => h) (seqSkip ?_)
    refine seqIfF (fun P' h => ⟨nw _ _, nw _ _, _, _, _, _, _, _, rfl, PF2.pl st, PF2.pl bu.1, by omega, fun x hx => ⟨_, _, _, _, _, _, rfl, hx, UF.fr bu.2, by omega, ?_⟩⟩) (seqSkip ?_)
    · rw [decide_eq_true on]; exact h
    refine seqIfF (fun P' h => ⟨nw _ _, nw _ _, _, _, _, _, _, _, rfl, PF2.pl st, PF2.pl bc.1, by omega, fun x hx => ⟨_, _, _, _, _, _, rfl, hx, UF.fr bc.2, by omega, ?_⟩⟩) (seqSkip ?_)
    · rw [decide_eq_true K.ring]; exact h
    refine ⟨nw _ _, .circle U, C, m, rfl, sf.w n1 st bc.1 hN, ⟨rfl, rfl⟩, ?_⟩
    rw [show inD _ _ = true from inD_first K.first]
    exact hQ
end Mb
set_option Elab.async false
set_option linter.all false
set_option maxRecDepth 100000
set_option maxHeartbeats 1000000
namespace Mb
open PySem PySem.Spec PyProof.Rows L2
/-! ### heights -/
structure HP (n : Nat) (p : Pl) : Prop where
  ex : ∃ X Y W : Int, W ≠ 0 ∧ p.1 = (X : Rat) / W ∧ p.2 = (Y : Rat) / W ∧ Bz n X ∧ Bz n Y ∧ Bz n W
theorem HP.mono {m n : Nat} {p : Pl} (h : HP m p) (l : m ≤ n) : HP n p := let ⟨X, Y, W, h1, h2, h3, h4, h5, h6⟩ := h.ex; ⟨X, Y, W, h1, h2, h3, h4.mono l, h5.mono l, h6.mono l⟩
theorem Bd_of' {n : Nat} {q : Rat} {a b : Int} (hb : b ≠ 0) (e : q = (a : Rat) / b) (ha : Bz n a) (hb' : Bz n b) : Bd n q := by
  rcases Int.lt_or_gt_of_ne hb with h | h
  · refine Bd_of (a := -a) (b := -b) (by omega) ?_ ha.neg hb'.neg
    rw [Rat.intCast_neg, Rat.intCast_neg, e]
    have n2 : (b : Rat) ≠ 0 := fun z => hb (Rat.intCast_eq_zero_iff.mp z)
    generalize (a : Rat) = x at *
    generalize (b : Rat) = y at *
    grind
  · exact Bd_of h e ha hb'
theorem HP.bp {n : Nat} {p : Pl} (h : HP n p) : BP n p := let ⟨X, Y, W, h1, h2, h3, h4, h5, h6⟩ := h.ex; ⟨Bd_of' h1 h2 h4 h6, Bd_of' h1 h3 h5 h6⟩
theorem ne0R {b : Int} (h : b ≠ 0) : (b : Rat) ≠ 0 := fun z => h (Rat.intCast_eq_zero_iff.mp z)
theorem mul_ne {a b : Int} (h : a ≠ 0) (g : b ≠ 0) : a * b ≠ 0 := fun z => by
  rcases Int.mul_eq_zero.mp z with q | q
  · exact h q
  · exact g q
theorem HP.free {x y : Rat} (hx : Wn 1000000000 x) (hy : Wn 1000000000 y) : HP 60 (x, y) := by
  have e : ∀ i : Nat, i < 1000000000 → i < 2 ^ 30 := fun i h => Nat.lt_trans h (by decide)
  have bx : Bd 30 x := ⟨e _ hx.num, by unfold Bz; simpa using e _ hx.den⟩
  have by_ : Bd 30 y := ⟨e _ hy.num, by unfold Bz; simpa using e _ hy.den⟩
  exact ⟨ox (x, y), oy (x, y), ow (x, y), by have := ow_pos (x, y); omega, ox_eq (x, y), oy_eq (x, y), bx.num.mul by_.den, by_.num.mul bx.den, bx.den.mul by_.den⟩
theorem HP.share {m n : Nat} {p q : Pl} {t : Rat} (hp : HP m p) (hq : HP n q) (t1 : t.num.natAbs ≤ 7) (t2 : t.den ≤ 7) : HP (m + n + 6) (share p q t) := by
  obtain ⟨X, Y, W, w0, ex, ey, bX, bY, bW⟩ := hp.ex
  obtain ⟨U, V, Z, z0, eu, ev, bU, bV, bZ⟩ := hq.ex
  have et := nd t
  have bt : Bz 3 t.num := by unfold Bz; omega
  have bd : Bz 3 (t.den : Int) := by unfold Bz; omega
  have bdt : Bz 4 ((t.den : Int) - t.num) := bd.sub bt (by decide) (by decide)
  have d0 := den_ne t
  have W0 := ne0R w0
  have Z0 := ne0R z0
  have D0 := ne0R d0
  refine ⟨X * Z * ((t.den : Int) - t.num) + U * W * t.num, Y * Z * ((t.den : Int) - t.num) + V * W * t.num, W * Z * (t.den : Int), mul_ne (mul_ne w0 z0) d0, ?_, ?_, ?_, ?_, ?_⟩
  · unfold Mb.share
    simp only [castAdd, castSub, castMul]
    rw [ex, eu]
    generalize (t.num : Rat) = a at *
    generalize ((t.den : Int) : Rat) = b at *
    rw [et]
    grind
  · unfold Mb.share
    simp only [castAdd, castSub, castMul]
    rw [ey, ev]
    generalize (t.num : Rat) = a at *
    generalize ((t.den : Int) : Rat) = b at *
    rw [et]
    grind
  · exact ((bX.mul bZ).mul bdt).add ((bU.mul bW).mul bt) (by omega) (by omega)
  · exact ((bY.mul bZ).mul bdt).add ((bV.mul bW).mul bt) (by omega) (by omega)
  · exact ((bW.mul bZ).mul bd).mono (by omega)
theorem half_nd : (1 / 2 : Rat).num.natAbs ≤ 7 ∧ (1 / 2 : Rat).den ≤ 7 := by decide +kernel
theorem two_nd : (2 : Rat).num.natAbs ≤ 7 ∧ (2 : Rat).den ≤ 7 := by decide +kernel
theorem HP.middle {m n : Nat} {p q : Pl} (hp : HP m p) (hq : HP n q) : HP (m + n + 6) (middle p q) := hp.share hq half_nd.1 half_nd.2
theorem HP.beyond {m n : Nat} {p q : Pl} (hp : HP m p) (hq : HP n q) : HP (m + n + 6) (beyond p q) := hp.share hq two_nd.1 two_nd.2
theorem HP.turned {m n : Nat} {p q : Pl} (hp : HP m p) (hq : HP n q) : HP (m + n + 6) (turned p q) := by
  obtain ⟨X, Y, W, w0, ex, ey, bX, bY, bW⟩ := hp.ex
  obtain ⟨U, V, Z, z0, eu, ev, bU, bV, bZ⟩ := hq.ex
  have W0 := ne0R w0
  have Z0 := ne0R z0
  refine ⟨U * W - (Y * Z - V * W), V * W + (X * Z - U * W), W * Z, mul_ne w0 z0, ?_, ?_, ?_, ?_, ?_⟩
  · unfold Mb.turned
    simp only [castAdd, castSub, castMul]
    rw [ey, eu, ev]
    grind
  · unfold Mb.turned
    simp only [castAdd, castSub, castMul]
    rw [ex, eu, ev]
    grind
  · exact (bU.mul bW).sub ((bY.mul bZ).sub (bV.mul bW) (show m + n < m + n + 1 by omega) (by omega)) (by omega) (by omega)
  · exact (bV.mul bW).add ((bX.mul bZ).sub (bU.mul bW) (show m + n < m + n + 1 by omega) (by omega)) (by omega) (by omega)
  · exact (bW.mul bZ).mono (by omega)
theorem foot_val {p : Pl} {l : Ln} (nl : Nm l) : (foot p l).1 = ((l.c : Rat) * l.a + l.b * (l.b * p.1 - l.a * p.2)) / nR l ∧ (foot p l).2 = ((l.c : Rat) * l.b - l.a * (l.b * p.1 - l.a * p.2)) / nR l := by
  have h1 := foot_off (p := p) nl
  have h2 := foot_way (p := p) nl
  have n0 := nR_ne nl
  have e := nR_eq l
  unfold offR at h1
  generalize foot p l = f at *
  generalize nR l = n at *
  unfold nQ at e
  generalize (l.a : Rat) = a at *
  generalize (l.b : Rat) = b at *
  generalize (l.c : Rat) = c at *
  constructor <;> grind
theorem HP.foot {m n : Nat} {p : Pl} {l : Ln} (nl : Nm l) (hp : HP m p) (hl : BL n l) : HP (m + 2 * n + 3) (foot p l) := by
  obtain ⟨X, Y, W, w0, ex, ey, bX, bY, bW⟩ := hp.ex
  obtain ⟨f1, f2⟩ := foot_val (p := p) nl
  have n0 := nR_ne nl
  have W0 := ne0R w0
  have z0 : nn l ≠ 0 := by have := nn_pos nl; omega
  have bn := nn_size hl
  refine ⟨l.c * l.a * W + l.b * (l.b * X - l.a * Y), l.c * l.b * W - l.a * (l.b * X - l.a * Y), nn l * W, mul_ne z0 w0, ?_, ?_, ?_, ?_, ?_⟩
  · rw [f1, ex, ey]
    simp only [castAdd, castSub, castMul]
    show _ = _ / (nR l * _)
    generalize nR l = n at *
    grind
  · rw [f2, ex, ey]
    simp only [castAdd, castSub, castMul]
    show _ = _ / (nR l * _)
    generalize nR l = n at *
    grind
  · exact ((hl.c.mul hl.a).mul bW).add (hl.b.mul ((hl.b.mul bX).sub (hl.a.mul bY) (show n + m < n + m + 1 by omega) (by omega))) (by omega) (by omega)
  · exact ((hl.c.mul hl.b).mul bW).sub (hl.a.mul ((hl.b.mul bX).sub (hl.a.mul bY) (show n + m < n + m + 1 by omega) (by omega))) (by omega) (by omega)
  · exact (bn.mul bW).mono (by omega)
theorem HP.mirror {m n : Nat} {p : Pl} {l : Ln} (nl : Nm l) (hp : HP m p) (hl : BL n l) : HP (m + 2 * n + 6) (mirror p l) := by
  obtain ⟨X, Y, W, w0, ex, ey, bX, bY, bW⟩ := hp.ex
  obtain ⟨f1, f2⟩ := foot_val (p := p) nl
  have n0 := nR_ne nl
  have W0 := ne0R w0
  have z0 : nn l ≠ 0 := by have := nn_pos nl; omega
  have bn := nn_size hl
  have two : Bz 2 2 := by unfold Bz; decide
  have b1 : Bz (m + 2 * n + 2) (l.c * l.a * W + l.b * (l.b * X - l.a * Y)) := ((hl.c.mul hl.a).mul bW).add (hl.b.mul ((hl.b.mul bX).sub (hl.a.mul bY) (show n + m < n + m + 1 by omega) (by omega))) (by omega) (by omega)
  have b2 : Bz (m + 2 * n + 2) (l.c * l.b * W - l.a * (l.b * X - l.a * Y)) := ((hl.c.mul hl.b).mul bW).sub (hl.a.mul ((hl.b.mul bX).sub (hl.a.mul bY) (show n + m < n + m + 1 by omega) (by omega))) (by omega) (by omega)
  refine ⟨2 * (l.c * l.a * W + l.b * (l.b * X - l.a * Y)) - nn l * X, 2 * (l.c * l.b * W - l.a * (l.b * X - l.a * Y)) - nn l * Y, nn l * W, mul_ne z0 w0, ?_, ?_, ?_, ?_, ?_⟩
  · unfold Mb.mirror Mb.beyond Mb.share
    rw [f1, ex, ey]
    simp only [castAdd, castSub, castMul]
    show _ = (_ - nR l * _) / (nR l * _)
    have e2 : ((2 : Int) : Rat) = 2 := rfl
    rw [e2]
    generalize nR l = n at *
    grind
  · unfold Mb.mirror Mb.beyond Mb.share
    rw [f2, ex, ey]
    simp only [castAdd, castSub, castMul]
    show _ = (_ - nR l * _) / (nR l * _)
    have e2 : ((2 : Int) : Rat) = 2 := rfl
    rw [e2]
    generalize nR l = n at *
    grind
  · exact (two.mul b1).sub (bn.mul bX) (by omega) (by omega)
  · exact (two.mul b2).sub (bn.mul bY) (by omega) (by omega)
  · exact (bn.mul bW).mono (by omega)
theorem HP.meet {j k : Nat} {l m : Ln} (h : ¬ par l m) (hl : BL j l) (hm : BL k m) : HP (j + k + 1) (meet l m) :=
  ⟨l.c * m.b - l.b * m.c, l.a * m.c - l.c * m.a, l.a * m.b - l.b * m.a, h, rfl, rfl, (hl.c.mul hm.b).sub (hl.b.mul hm.c) (by omega) (by omega), (hl.a.mul hm.c).sub (hl.c.mul hm.a) (by omega) (by omega), (hl.a.mul hm.b).sub (hl.b.mul hm.a) (by omega) (by omega)⟩
end Mb
set_option Elab.async false
set_option linter.all false
set_option maxRecDepth 100000
set_option maxHeartbeats 1000000
namespace Mb
open PySem PySem.Spec PyProof.Rows L2
/-! ### lines' heights -/
theorem line_le {l : Ln} (nl : Nm l) {a b c : Int} {k : Rat} (k0 : k ≠ 0) (ea : (a : Rat) = k * l.a) (eb : (b : Rat) = k * l.b) (ec : (c : Rat) = k * l.c) {n : Nat} (ba : Bz n a) (bb : Bz n b) (bc : Bz n c) : BL n l := by
  have hk := nd k
  have d0 := den_neR k
  have key : ∀ x y : Int, (x : Rat) = k * y → (k.den : Int) * x = k.num * y := fun x y e => by
    refine Rat.intCast_inj.mp ?_
    rw [castMul, castMul, e]
    generalize (k.num : Rat) = u at *
    generalize ((k.den : Int) : Rat) = v at *
    rw [hk]
    grind
  have cop : Int.gcd (k.den : Int) k.num = 1 := by
    have := fr_gcd k
    rw [Int.gcd_comm]
    exact this
  have dv : ∀ x y : Int, (x : Rat) = k * y → (k.den : Int) ∣ y := fun x y e => by
    have h := key x y e
    have h2 : (k.den : Int) ∣ k.num * y := ⟨x, h.symm⟩
    have h3 := Int.natAbs_dvd_natAbs.mpr h2
    rw [Int.natAbs_mul] at h3
    exact Int.natAbs_dvd_natAbs.mp (Nat.Coprime.dvd_of_dvd_mul_left (show Nat.Coprime (k.den : Int).natAbs k.num.natAbs from cop) h3)
  have d1 : ((k.den : Int)) ∣ ((Int.gcd (Int.gcd l.a l.b : Int) l.c : Nat) : Int) := by
    refine Int.dvd_coe_gcd (Int.dvd_coe_gcd (dv _ _ ea) (dv _ _ eb)) (dv _ _ ec)
  rw [nl.one] at d1
  have e1 : (k.den : Int) = 1 := by
    have := Int.le_of_dvd (by decide) d1
    have := den_pos' k
    omega
  have n0 := num_ne k0
  have fin : ∀ x y : Int, (x : Rat) = k * y → Bz n x → Bz n y := fun x y e hx => by
    have h := key x y e
    rw [e1, Int.one_mul] at h
    unfold Bz at *
    rw [h, Int.natAbs_mul] at hx
    exact Nat.lt_of_le_of_lt (Nat.le_mul_of_pos_left _ (by omega)) hx
  exact ⟨fin _ _ ea ba, fin _ _ eb bb, fin _ _ ec bc⟩
theorem oneForm_rat {a b c : Int} (h : ¬ (a = 0 ∧ b = 0)) : ∃ s : Rat, s ≠ 0 ∧ (a : Rat) = s * (oneForm a b c).a ∧ (b : Rat) = s * (oneForm a b c).b ∧ (c : Rat) = s * (oneForm a b c).c := by
  obtain ⟨s, s0, _, ea, eb, ec, _⟩ := oneForm_spec (c := c) h
  exact ⟨s, ne0R s0, by rw [← castMul, ← ea], by rw [← castMul, ← eb], by rw [← castMul, ← ec]⟩
theorem through_scale {p q : Pl} (h : p ≠ q) : ∃ s : Rat, s ≠ 0 ∧ p.2 - q.2 = s * (through p q).a ∧ q.1 - p.1 = s * (through p q).b ∧ p.2 * q.1 - p.1 * q.2 = s * (through p q).c := by
  obtain ⟨s, s0, ea, eb, ec⟩ := oneForm_rat (c := oy p * ox q - ox p * oy q) (through_ne h)
  have o1 := ow_ne p
  have o2 := ow_ne q
  refine ⟨s / ((ow p : Rat) * ow q), ?_, ?_, ?_, ?_⟩
  · grind
  · show _ = _ * ((oneForm _ _ _).a : Rat)
    generalize ((oneForm (oy p * ow q - oy q * ow p) (ow p * ox q - ow q * ox p) (oy p * ox q - ox p * oy q)).a : Rat) = z at *
    simp only [castSub, castMul, oy_mul] at ea
    generalize (ow p : Rat) = u at *
    generalize (ow q : Rat) = v at *
    clear eb ec
    grind
  · show _ = _ * ((oneForm _ _ _).b : Rat)
    generalize ((oneForm (oy p * ow q - oy q * ow p) (ow p * ox q - ow q * ox p) (oy p * ox q - ox p * oy q)).b : Rat) = z at *
    simp only [castSub, castMul, ox_mul] at eb
    generalize (ow p : Rat) = u at *
    generalize (ow q : Rat) = v at *
    clear ea ec
    grind
  · show _ = _ * ((oneForm _ _ _).c : Rat)
    generalize ((oneForm (oy p * ow q - oy q * ow p) (ow p * ox q - ow q * ox p) (oy p * ox q - ox p * oy q)).c : Rat) = z at *
    simp only [castSub, castMul, ox_mul, oy_mul] at ec
    generalize (ow p : Rat) = u at *
    generalize (ow q : Rat) = v at *
    clear ea eb
    grind
theorem along_scale {p : Pl} {l : Ln} (nl : Nm l) : ∃ s : Rat, s ≠ 0 ∧ (l.a : Rat) = s * (along p l).a ∧ (l.b : Rat) = s * (along p l).b ∧ (l.a : Rat) * p.1 + l.b * p.2 = s * (along p l).c := by
  obtain ⟨s, s0, ea, eb, ec⟩ := oneForm_rat (c := l.a * ox p + l.b * oy p) (along_ne (p := p) nl)
  have o1 := ow_ne p
  refine ⟨s / (ow p : Rat), ?_, ?_, ?_, ?_⟩
  · grind
  · show _ = _ * ((oneForm _ _ _).a : Rat)
    generalize ((oneForm (l.a * ow p) (l.b * ow p) (l.a * ox p + l.b * oy p)).a : Rat) = z at *
    simp only [castMul] at ea
    clear eb ec
    grind
  · show _ = _ * ((oneForm _ _ _).b : Rat)
    generalize ((oneForm (l.a * ow p) (l.b * ow p) (l.a * ox p + l.b * oy p)).b : Rat) = z at *
    simp only [castMul] at eb
    clear ea ec
    grind
  · show _ = _ * ((oneForm _ _ _).c : Rat)
    generalize ((oneForm (l.a * ow p) (l.b * ow p) (l.a * ox p + l.b * oy p)).c : Rat) = z at *
    simp only [castAdd, castMul, ox_mul, oy_mul] at ec
    clear ea eb
    grind
theorem upright_scale {p : Pl} {l : Ln} (nl : Nm l) : ∃ s : Rat, s ≠ 0 ∧ (l.b : Rat) = s * (upright p l).a ∧ -(l.a : Rat) = s * (upright p l).b ∧ (l.b : Rat) * p.1 - l.a * p.2 = s * (upright p l).c := by
  obtain ⟨s, s0, ea, eb, ec⟩ := oneForm_rat (c := l.b * ox p - l.a * oy p) (upright_ne (p := p) nl)
  have o1 := ow_ne p
  refine ⟨s / (ow p : Rat), ?_, ?_, ?_, ?_⟩
  · grind
  · show _ = _ * ((oneForm _ _ _).a : Rat)
    generalize ((oneForm (l.b * ow p) (-l.a * ow p) (l.b * ox p - l.a * oy p)).a : Rat) = z at *
    simp only [castMul] at ea
    clear eb ec
    grind
  · show _ = _ * ((oneForm _ _ _).b : Rat)
    generalize ((oneForm (l.b * ow p) (-l.a * ow p) (l.b * ox p - l.a * oy p)).b : Rat) = z at *
    simp only [castMul, Rat.intCast_neg] at eb
    clear ea ec
    grind
  · show _ = _ * ((oneForm _ _ _).c : Rat)
    generalize ((oneForm (l.b * ow p) (-l.a * ow p) (l.b * ox p - l.a * oy p)).c : Rat) = z at *
    simp only [castSub, castMul, ox_mul, oy_mul] at ec
    clear ea eb
    grind
theorem BL.through {m n : Nat} {p q : Pl} (h : p ≠ q) (hp : HP m p) (hq : HP n q) : BL (m + n + 1) (through p q) := by
  obtain ⟨X, Y, W, w0, ex, ey, bX, bY, bW⟩ := hp.ex
  obtain ⟨U, V, Z, z0, eu, ev, bU, bV, bZ⟩ := hq.ex
  obtain ⟨s, s0, ea, eb, ec⟩ := through_scale h
  have W0 := ne0R w0
  have Z0 := ne0R z0
  refine line_le (through_nm h) (k := s * (W * Z)) (a := Y * Z - V * W) (b := W * U - Z * X) (c := Y * U - X * V) ?_ ?_ ?_ ?_ ((bY.mul bZ).sub (bV.mul bW) (by omega) (by omega)) ((bW.mul bU).sub (bZ.mul bX) (by omega) (by omega)) ((bY.mul bU).sub (bX.mul bV) (by omega) (by omega))
  · intro z
    rcases Rat.mul_eq_zero.mp z with q | q
    · exact s0 q
    · rcases Rat.mul_eq_zero.mp q with q | q
      · exact W0 q
      · exact Z0 q
  · simp only [castSub, castMul]
    rw [show s * ((W : Rat) * Z) * ((Mb.through p q).a : Rat) = (W : Rat) * Z * (s * (Mb.through p q).a) by grind, ← ea, ey, ev]
    grind
  · simp only [castSub, castMul]
    rw [show s * ((W : Rat) * Z) * ((Mb.through p q).b : Rat) = (W : Rat) * Z * (s * (Mb.through p q).b) by grind, ← eb, ex, eu]
    grind
  · simp only [castSub, castMul]
    rw [show s * ((W : Rat) * Z) * ((Mb.through p q).c : Rat) = (W : Rat) * Z * (s * (Mb.through p q).c) by grind, ← ec, ex, eu, ey, ev]
    grind
theorem mul_neR {a b : Rat} (h : a ≠ 0) (g : b ≠ 0) : a * b ≠ 0 := fun z => by
  rcases Rat.mul_eq_zero.mp z with q | q
  · exact h q
  · exact g q
theorem BL.along {m n : Nat} {p : Pl} {l : Ln} (nl : Nm l) (hp : HP m p) (hl : BL n l) : BL (m + n + 1) (along p l) := by
  obtain ⟨X, Y, W, w0, ex, ey, bX, bY, bW⟩ := hp.ex
  obtain ⟨s, s0, ea, eb, ec⟩ := along_scale (p := p) nl
  have W0 := ne0R w0
  refine line_le (along_nm nl) (k := s * W) (a := l.a * W) (b := l.b * W) (c := l.a * X + l.b * Y) (mul_neR s0 W0) ?_ ?_ ?_ ((hl.a.mul bW).mono (by omega)) ((hl.b.mul bW).mono (by omega)) ((hl.a.mul bX).add (hl.b.mul bY) (by omega) (by omega))
  · rw [castMul, ea]; grind
  · rw [castMul, eb]; grind
  · rw [castAdd, castMul, castMul, show s * (W : Rat) * ((Mb.along p l).c : Rat) = (W : Rat) * (s * (Mb.along p l).c) by grind, ← ec, ex, ey]
    clear ea eb ec
    grind
theorem BL.upright {m n : Nat} {p : Pl} {l : Ln} (nl : Nm l) (hp : HP m p) (hl : BL n l) : BL (m + n + 1) (upright p l) := by
  obtain ⟨X, Y, W, w0, ex, ey, bX, bY, bW⟩ := hp.ex
  obtain ⟨s, s0, ea, eb, ec⟩ := upright_scale (p := p) nl
  have W0 := ne0R w0
  refine line_le (upright_nm nl) (k := s * W) (a := l.b * W) (b := -l.a * W) (c := l.b * X - l.a * Y) (mul_neR s0 W0) ?_ ?_ ?_ ((hl.b.mul bW).mono (by omega)) ((hl.a.neg.mul bW).mono (by omega)) ((hl.b.mul bX).sub (hl.a.mul bY) (by omega) (by omega))
  · rw [castMul, ea]; grind
  · rw [castMul, Rat.intCast_neg, eb]; grind
  · rw [castSub, castMul, castMul, show s * (W : Rat) * ((Mb.upright p l).c : Rat) = (W : Rat) * (s * (Mb.upright p l).c) by grind, ← ec, ex, ey]
    clear ea eb ec
    grind
/-! ### circles' heights -/
structure HC (m v : Nat) (C : Ci) : Prop where
  ex : ∃ X Y W V N : Int, W ≠ 0 ∧ V ≠ 0 ∧ C.x = (X : Rat) / W ∧ C.y = (Y : Rat) / W ∧ C.s = (N : Rat) / ((W : Rat) * V * (W * V)) ∧ Bz m X ∧ Bz m Y ∧ Bz m W ∧ Bz v V ∧ Bz (2 * (m + v) + 3) N
theorem HC.bp {m v : Nat} {C : Ci} (h : HC m v C) : BP m C.c := let ⟨X, Y, W, V, N, h1, _, h2, h3, _, h4, h5, h6, _⟩ := h.ex; ⟨Bd_of' h1 h2 h4 h6, Bd_of' h1 h3 h5 h6⟩
theorem HC.bs {m v : Nat} {C : Ci} (h : HC m v C) : Bd (2 * (m + v) + 3) C.s := by
  obtain ⟨X, Y, W, V, N, h1, h2, _, _, e, _, _, bW, bV, bN⟩ := h.ex
  exact Bd_of' (a := N) (b := W * V * (W * V)) (mul_ne (mul_ne h1 h2) (mul_ne h1 h2)) (by rw [e]; simp only [castMul]) bN (((bW.mul bV).mul (bW.mul bV)).mono (by omega))
theorem sqb_val {p q : Pl} {X Y W U V Z : Int} (w0 : W ≠ 0) (z0 : Z ≠ 0) (ex : p.1 = (X : Rat) / W) (ey : p.2 = (Y : Rat) / W) (eu : q.1 = (U : Rat) / Z) (ev : q.2 = (V : Rat) / Z) : sqb p q = (((X * Z - U * W) * (X * Z - U * W) + (Y * Z - V * W) * (Y * Z - V * W) : Int) : Rat) / ((W : Rat) * Z * (W * Z)) := by
  have W0 := ne0R w0
  have Z0 := ne0R z0
  unfold sqb
  rw [ex, ey, eu, ev]
  simp only [castAdd, castSub, castMul]
  grind
theorem sq_size {m n : Nat} {X Y W U V Z : Int} (bX : Bz m X) (bY : Bz m Y) (bW : Bz m W) (bU : Bz n U) (bV : Bz n V) (bZ : Bz n Z) : Bz (2 * (m + n) + 3) ((X * Z - U * W) * (X * Z - U * W) + (Y * Z - V * W) * (Y * Z - V * W)) := by
  have b1 : Bz (m + n + 1) (X * Z - U * W) := (bX.mul bZ).sub (bU.mul bW) (by omega) (by omega)
  have b2 : Bz (m + n + 1) (Y * Z - V * W) := (bY.mul bZ).sub (bV.mul bW) (by omega) (by omega)
  exact (b1.mul b1).add (b2.mul b2) (by omega) (by omega)
theorem HC.about {m n : Nat} {p q : Pl} (hp : HP m p) (hq : HP n q) : HC m n (about p q) := by
  obtain ⟨X, Y, W, w0, ex, ey, bX, bY, bW⟩ := hp.ex
  obtain ⟨U, V, Z, z0, eu, ev, bU, bV, bZ⟩ := hq.ex
  exact ⟨X, Y, W, Z, _, w0, z0, ex, ey, sqb_val w0 z0 ex ey eu ev, bX, bY, bW, bZ, sq_size bX bY bW bU bV bZ⟩
theorem sqb_size {m n : Nat} {p q : Pl} (hp : HP m p) (hq : HP n q) : Bd (2 * (m + n) + 3) (sqb p q) := (HC.about hp hq).bs
theorem det3_size {i j k : Nat} {p q r : Pl} (hp : HP i p) (hq : HP j q) (hr : HP k r) : Bd (i + j + k + 3) (det3R p q r) := by
  obtain ⟨X, Y, W, w0, ex, ey, bX, bY, bW⟩ := hp.ex
  obtain ⟨U, V, Z, z0, eu, ev, bU, bV, bZ⟩ := hq.ex
  obtain ⟨F, G, K, k0, ef, eg, bF, bG, bK⟩ := hr.ex
  have W0 := ne0R w0
  have Z0 := ne0R z0
  have K0 := ne0R k0
  refine Bd_of' (a := X * (V * K - G * Z) - U * (Y * K - G * W) + F * (Y * Z - V * W)) (b := W * Z * K) (mul_ne (mul_ne w0 z0) k0) ?_ ?_ (((bW.mul bZ).mul bK).mono (by omega))
  · unfold det3R
    rw [ex, ey, eu, ev, ef, eg]
    simp only [castAdd, castSub, castMul]
    grind
  · have b1 : Bz (i + j + k + 1) (X * (V * K - G * Z)) := (bX.mul ((bV.mul bK).sub (bG.mul bZ) (show j + k < j + k + 1 by omega) (by omega))).mono (by omega)
    have b2 : Bz (i + j + k + 1) (U * (Y * K - G * W)) := (bU.mul ((bY.mul bK).sub (bG.mul bW) (show i + k < i + k + 1 by omega) (by omega))).mono (by omega)
    have b3 : Bz (i + j + k + 1) (F * (Y * Z - V * W)) := (bF.mul ((bY.mul bZ).sub (bV.mul bW) (show i + j < i + j + 1 by omega) (by omega))).mono (by omega)
    exact (b1.sub b2 (show i + j + k + 1 < i + j + k + 2 by omega) (by omega)).add b3 (by omega) (by omega)
theorem eR_size {m v n : Nat} {C : Ci} {l : Ln} (hC : HC m v C) (hl : BL n l) : Bd (m + n + 2) (eR l C.c) := by
  obtain ⟨X, Y, W, V, N, w0, v0, ex, ey, es, bX, bY, bW, bV, bN⟩ := hC.ex
  have W0 := ne0R w0
  refine Bd_of' (a := l.c * W - (l.a * X + l.b * Y)) (b := W) w0 ?_ ?_ (bW.mono (by omega))
  · unfold eR Ci.c
    simp only []
    rw [ex, ey]
    simp only [castAdd, castSub, castMul]
    grind
  · exact (hl.c.mul bW).sub ((hl.a.mul bX).add (hl.b.mul bY) (show n + m < n + m + 1 by omega) (by omega)) (by omega) (by omega)
theorem BL.betw {m v n w : Nat} {A B : Ci} (h : A.c ≠ B.c) (hA : HC m v A) (hB : HC n w B) : BL (2 * (m + v) + 2 * (n + w) + 5) (betw A B) := by
  obtain ⟨X, Y, W, V, N, w0, v0, ex, ey, es, bX, bY, bW, bV, bN⟩ := hA.ex
  obtain ⟨F, G, K, J, M, k0, j0, ef, eg, em, bF, bG, bK, bJ, bM⟩ := hB.ex
  obtain ⟨k, kn, ea, eb, ec⟩ := betw_scale h
  have W0 := ne0R w0
  have V0 := ne0R v0
  have K0 := ne0R k0
  have J0 := ne0R j0
  have two : Bz 2 2 := by unfold Bz; decide
  have bWV := bW.mul bV
  have bKJ := bK.mul bJ
  have b2A : Bz (2 * (m + v)) (W * V * (W * V)) := (bWV.mul bWV).mono (by omega)
  have b2B : Bz (2 * (n + w)) (K * J * (K * J)) := (bKJ.mul bKJ).mono (by omega)
  have bVJ : Bz (2 * v + 2 * w) (V * V * (J * J)) := ((bV.mul bV).mul (bJ.mul bJ)).mono (by omega)
  have t2 : ((2 : Int) : Rat) = 2 := rfl
  refine line_le (betw_nm h) (k := W * V * (W * V) * (K * J * (K * J)) / k)
    (a := 2 * (F * W - X * K) * (W * K) * (V * V * (J * J))) (b := 2 * (G * W - Y * K) * (W * K) * (V * V * (J * J)))
    (c := (N * (K * J * (K * J)) - (X * X + Y * Y) * (V * V) * (K * J * (K * J))) - (M * (W * V * (W * V)) - (F * F + G * G) * (J * J) * (W * V * (W * V)))) ?_ ?_ ?_ ?_ ?_ ?_ ?_
  · have := mul_ne w0 v0
    grind
  · simp only [castSub, castMul, t2]
    rw [ea]
    unfold btA
    rw [ex, ef]
    grind
  · simp only [castSub, castMul, t2]
    rw [eb]
    unfold btB
    rw [ey, eg]
    grind
  · simp only [castAdd, castSub, castMul]
    rw [ec]
    unfold btC far
    rw [ex, ey, es, ef, eg, em]
    grind
  · exact (((two.mul ((bF.mul bW).sub (bX.mul bK) (show n + m < n + m + 1 by omega) (by omega))).mul (bW.mul bK)).mul bVJ).mono (by omega)
  · exact (((two.mul ((bG.mul bW).sub (bY.mul bK) (show n + m < n + m + 1 by omega) (by omega))).mul (bW.mul bK)).mul bVJ).mono (by omega)
  · have c1 : Bz (2 * (m + v) + 2 * (n + w) + 3) (N * (K * J * (K * J))) := (bN.mul b2B).mono (by omega)
    have c2 : Bz (2 * (m + v) + 2 * (n + w) + 3) ((X * X + Y * Y) * (V * V) * (K * J * (K * J))) := ((((bX.mul bX).add (bY.mul bY) (show m + m < m + m + 1 by omega) (by omega)).mul (bV.mul bV)).mul b2B).mono (by omega)
    have c3 : Bz (2 * (m + v) + 2 * (n + w) + 3) (M * (W * V * (W * V))) := (bM.mul b2A).mono (by omega)
    have c4 : Bz (2 * (m + v) + 2 * (n + w) + 3) ((F * F + G * G) * (J * J) * (W * V * (W * V))) := ((((bF.mul bF).add (bG.mul bG) (show n + n < n + n + 1 by omega) (by omega)).mul (bJ.mul bJ)).mul b2A).mono (by omega)
    exact (c1.sub c2 (show _ < 2 * (m + v) + 2 * (n + w) + 4 by omega) (by omega)).sub (c3.sub c4 (show _ < 2 * (m + v) + 2 * (n + w) + 4 by omega) (by omega)) (by omega) (by omega)
end Mb
set_option Elab.async false
set_option linter.all false
set_option maxRecDepth 100000
set_option maxHeartbeats 1000000
namespace Mb
open PySem PySem.Spec PyProof.Rows L2
/-! ### heights of cuts -/
theorem int_of_sq {q : Rat} {i : Int} (h : q * q = (i : Rat)) : ∃ R : Int, q = (R : Rat) ∧ R * R = i := by
  obtain ⟨e1, e2⟩ := sq_num_den q
  rw [h] at e1 e2
  rw [Rat.den_intCast] at e2
  rw [Rat.num_intCast] at e1
  have d1 : (q.den : Int) = 1 := by
    have p := den_pos' q
    have := le_sq (show 0 ≤ (q.den : Int) by omega)
    omega
  refine ⟨q.num, ?_, e1.symm⟩
  have h2 := nd q
  rw [d1] at h2
  have one : ((1 : Int) : Rat) = 1 := rfl
  rw [one] at h2
  grind
theorem root_bits {ρ : Nat} {R M : Int} (h : R * R ≤ M) (b : Bz (2 * ρ) M) : Bz ρ R := by
  have h0 := sq_nonneg R
  unfold Bz at *
  have h1 : (R * R).natAbs < 2 ^ (2 * ρ) := by omega
  rw [Int.natAbs_mul, show 2 * ρ = ρ + ρ by omega, Nat.pow_add] at h1
  rcases Nat.lt_or_ge R.natAbs (2 ^ ρ) with q | q
  · exact q
  · have := Nat.mul_le_mul q q
    omega
theorem HP.cutOne {m v n : Nat} {l : Ln} {C : Ci} {r : Rat} (nl : Nm l) (hC : HC m v C) (hl : BL n l) (hr : r * r = dR l C) : HP (m + v + 2 * n + 4) (cutOne l C r) := by
  obtain ⟨X, Y, W, V, N, w0, v0, ex, ey, es, bX, bY, bW, bV, bN⟩ := hC.ex
  have W0 := ne0R w0
  have V0 := ne0R v0
  have n0 := nR_ne nl
  have z0 : nn l ≠ 0 := by have := nn_pos nl; omega
  have bn := nn_size hl
  have eE : eR l C.c = ((l.c * W - (l.a * X + l.b * Y) : Int) : Rat) / W := by
    unfold eR Ci.c
    simp only []
    rw [ex, ey]
    simp only [castAdd, castSub, castMul]
    grind
  have bE : Bz (n + m + 2) (l.c * W - (l.a * X + l.b * Y)) := (hl.c.mul bW).sub ((hl.a.mul bX).add (hl.b.mul bY) (show n + m < n + m + 1 by omega) (by omega)) (by omega) (by omega)
  generalize l.c * W - (l.a * X + l.b * Y) = E at *
  have sq : (r * (W * V)) * (r * (W * V)) = ((N * nn l - E * V * (E * V) : Int) : Rat) := by
    simp only [castSub, castMul]
    show _ = (N : Rat) * nR l - _
    have h2 : r * (W * V) * (r * (W * V)) = (r * r) * ((W : Rat) * V * (W * V)) := by grind
    rw [h2, hr]
    unfold dR
    rw [es, eE]
    generalize nR l = k at *
    clear hr h2 eE ex ey es
    grind
  obtain ⟨R, eRR, hR⟩ := int_of_sq sq
  have bR : Bz (m + v + n + 2) R := by
    have h1 := sq_nonneg (E * V)
    refine root_bits (M := N * nn l) (by omega) ((bN.mul bn).mono (by omega))
  have er : r = (R : Rat) / ((W : Rat) * V) := by
    rw [← eRR]
    grind
  refine ⟨X * nn l * V + l.a * E * V + R * l.b, Y * nn l * V + l.b * E * V - R * l.a, nn l * W * V, mul_ne (mul_ne z0 w0) v0, ?_, ?_, ?_, ?_, ?_⟩
  · show mX l C + rX l r = _
    unfold mX rX
    rw [eE, er, ex]
    simp only [castAdd, castMul]
    show _ = (_ * nR l * _ + _ + _) / (nR l * _ * _)
    generalize nR l = k at *
    clear hr sq eE ex ey es eRR er
    grind
  · show mY l C - rY l r = _
    unfold mY rY
    rw [eE, er, ey]
    simp only [castAdd, castSub, castMul]
    show _ = (_ * nR l * _ + _ - _) / (nR l * _ * _)
    generalize nR l = k at *
    clear hr sq eE ex ey es eRR er
    grind
  · exact (((bX.mul bn).mul bV).add ((hl.a.mul bE).mul bV) (show _ < m + v + 2 * n + 3 by omega) (by omega)).add (bR.mul hl.b) (by omega) (by omega)
  · exact (((bY.mul bn).mul bV).add ((hl.b.mul bE).mul bV) (show _ < m + v + 2 * n + 3 by omega) (by omega)).sub (bR.mul hl.a) (by omega) (by omega)
  · exact ((bn.mul bW).mul bV).mono (by omega)
theorem cutTwo_neg (l : Ln) (C : Ci) (r : Rat) : cutTwo l C r = cutOne l C (-r) := by
  unfold cutTwo cutOne rX rY
  refine Prod.ext ?_ ?_
  · show _ - _ = _ + _
    grind
  · show _ + _ = _ - _
    grind
theorem HP.cutR {m v n : Nat} {l : Ln} {C : Ci} {k : Int} {p : Pl} (nl : Nm l) (hC : HC m v C) (hl : BL n l) (h : cutR l C k = .ok (.pt p)) : HP (m + v + 2 * n + 4) p := by
  obtain ⟨r, r0, e, rfl⟩ := cutR_ok h
  refine cut_fs (fun p => HP (m + v + 2 * n + 4) p) (HP.cutOne nl hC hl e) ?_ k
  rw [cutTwo_neg]
  exact HP.cutOne nl hC hl (by grind)
end Mb
set_option Elab.async false
set_option linter.all false
set_option maxRecDepth 100000
set_option maxHeartbeats 1000000
namespace Mb
open PySem PySem.Spec PyProof.Rows L2
/-! ### weights bound heights -/
def hB (w : Nat) : Nat := 66 * w - 6
def WT (w : Nat) : Tl → Prop
  | .pt p => HP (66 * w - 6) p
  | .line l => Nm l ∧ BL (66 * w - 6) l
  | .circle C => ∃ m v, HC m v C ∧ m + v + 12 ≤ 66 * w ∧ 60 ≤ m ∧ 60 ≤ v
  | _ => True
def RW : Rm → Nat → Prop
  | .free x y, w => Wn 1000000000 x ∧ Wn 1000000000 y ∧ w = 1
  | .middle p q, w | .next p q, w | .turn p q, w | .line p q, w | .circle p q, w => ∃ a b, 1 ≤ a ∧ 1 ≤ b ∧ WT a (.pt p) ∧ WT b (.pt q) ∧ w = a + b
  | .share p q t, w => (t.num.natAbs ≤ 7 ∧ t.den ≤ 7) ∧ ∃ a b, 1 ≤ a ∧ 1 ≤ b ∧ WT a (.pt p) ∧ WT b (.pt q) ∧ w = a + b
  | .foot p l, w | .mirror p l, w => ∃ a b, 1 ≤ a ∧ 1 ≤ b ∧ WT a (.pt p) ∧ WT b (.line l) ∧ w = a + 2 * b
  | .along p l, w | .upright p l, w => ∃ a b, 1 ≤ a ∧ 1 ≤ b ∧ WT a (.pt p) ∧ WT b (.line l) ∧ w = a + b
  | .meet l m, w | .beside l m, w | .square l m, w => ∃ a b, 1 ≤ a ∧ 1 ≤ b ∧ WT a (.line l) ∧ WT b (.line m) ∧ w = a + b
  | .cutL l C k, w => (k = 1 ∨ k = 2) ∧ ∃ a b, 1 ≤ a ∧ 1 ≤ b ∧ WT a (.line l) ∧ WT b (.circle C) ∧ w = 2 * a + b
  | .cutC A B k, w => (k = 1 ∨ k = 2) ∧ ∃ a b, 1 ≤ a ∧ 1 ≤ b ∧ WT a (.circle A) ∧ WT b (.circle B) ∧ w = 5 * (a + b)
  | .inline p q r, w => ∃ a b c, 1 ≤ a ∧ 1 ≤ b ∧ 1 ≤ c ∧ WT a (.pt p) ∧ WT b (.pt q) ∧ WT c (.pt r) ∧ w = a + (b + c)
  | .round p q r s, w | .alike p q r s, w => ∃ a b c d, 1 ≤ a ∧ 1 ≤ b ∧ 1 ≤ c ∧ 1 ≤ d ∧ WT a (.pt p) ∧ WT b (.pt q) ∧ WT c (.pt r) ∧ WT d (.pt s) ∧ w = 2 * (a + (b + (c + d)))
theorem cutR_pt {l : Ln} {C : Ci} {k : Int} {t : Tl} (h : cutR l C k = .ok t) : ∃ p, t = .pt p := by
  unfold cutR at h
  split at h
  · cases h
  · split at h
    · injection h with h; exact ⟨_, h.symm⟩
    · cases h
theorem keptOr_WT {b : Bool} {w : Nat} {t : Tl} (h : keptOr b = .ok t) : WT w t := by
  cases b <;> (injection h with h; subst h; trivial)
/-- what is made is no greater than its weight says -/
theorem made_WT : ∀ {r : Rm} {w : Nat} {t : Tl}, RW r w → made r = .ok t → WT w t := by
  intro r w t h hm
  cases r with
  | free x y =>
    obtain ⟨h1, h2, rfl⟩ := h
    injection hm with hm; subst hm
    exact (HP.free h1 h2).mono (by decide)
  | middle p q =>
    obtain ⟨a, b, a1, b1, ha, hb, rfl⟩ := h
    injection hm with hm; subst hm
    exact (HP.middle ha hb).mono (by omega)
  | share p q t =>
    obtain ⟨⟨t1, t2⟩, a, b, a1, b1, ha, hb, rfl⟩ := h
    injection hm with hm; subst hm
    exact (HP.share ha hb t1 t2).mono (by omega)
  | next p q =>
    obtain ⟨a, b, a1, b1, ha, hb, rfl⟩ := h
    injection hm with hm; subst hm
    exact (HP.beyond ha hb).mono (by omega)
  | turn p q =>
    obtain ⟨a, b, a1, b1, ha, hb, rfl⟩ := h
    injection hm with hm; subst hm
    exact (HP.turned ha hb).mono (by omega)
  | foot p l =>
    obtain ⟨a, b, a1, b1, ha, hb, rfl⟩ := h
    injection hm with hm; subst hm
    exact (HP.foot hb.1 ha hb.2).mono (by omega)
  | mirror p l =>
    obtain ⟨a, b, a1, b1, ha, hb, rfl⟩ := h
    injection hm with hm; subst hm
    exact (HP.mirror hb.1 ha hb.2).mono (by omega)
  | meet l m =>
    obtain ⟨a, b, a1, b1, ha, hb, rfl⟩ := h
    by_cases np : par l m
    · have e : made (.meet l m) = .fails "parallel" := if_pos np
      rw [e] at hm; cases hm
    · have e : made (.meet l m) = .ok (.pt (meet l m)) := if_neg np
      rw [e] at hm
      injection hm with hm; subst hm
      exact (HP.meet np ha.2 hb.2).mono (by omega)
  | cutL l C k =>
    obtain ⟨hk, a, b, a1, b1, ha, ⟨m, v, hC, hmv, m0, v0⟩, rfl⟩ := h
    obtain ⟨p, rfl⟩ := cutR_pt hm
    exact (HP.cutR ha.1 hC ha.2 hm).mono (by omega)
  | cutC A B k =>
    obtain ⟨hk, a, b, a1, b1, ⟨m, v, hA, hmv, m0, v0⟩, ⟨m', v', hB, hmv', m0', v0'⟩, rfl⟩ := h
    by_cases ne : A.c = B.c
    · have e : made (.cutC A B k) = .fails "centre" := if_pos ne
      rw [e] at hm; cases hm
    · have e : made (.cutC A B k) = cutR (betw A B) A k := if_neg ne
      rw [e] at hm
      obtain ⟨p, rfl⟩ := cutR_pt hm
      exact (HP.cutR (betw_nm ne) hA (BL.betw ne hA hB) hm).mono (by omega)
  | line p q =>
    obtain ⟨a, b, a1, b1, ha, hb, rfl⟩ := h
    by_cases ne : p = q
    · have e : made (.line p q) = .fails "same" := if_pos ne
      rw [e] at hm; cases hm
    · have e : made (.line p q) = .ok (.line (through p q)) := if_neg ne
      rw [e] at hm
      injection hm with hm; subst hm
      exact ⟨through_nm ne, (BL.through ne ha hb).mono (by omega)⟩
  | along p l =>
    obtain ⟨a, b, a1, b1, ha, hb, rfl⟩ := h
    injection hm with hm; subst hm
    exact ⟨along_nm hb.1, (BL.along hb.1 ha hb.2).mono (by omega)⟩
  | upright p l =>
    obtain ⟨a, b, a1, b1, ha, hb, rfl⟩ := h
    injection hm with hm; subst hm
    exact ⟨upright_nm hb.1, (BL.upright hb.1 ha hb.2).mono (by omega)⟩
  | circle p q =>
    obtain ⟨a, b, a1, b1, ha, hb, rfl⟩ := h
    by_cases ne : p = q
    · have e : made (.circle p q) = .fails "same" := if_pos ne
      rw [e] at hm; cases hm
    · have e : made (.circle p q) = .ok (.circle (about p q)) := if_neg ne
      rw [e] at hm
      injection hm with hm; subst hm
      exact ⟨_, _, HC.about ha hb, by omega, by omega, by omega⟩
  | inline p q r => exact keptOr_WT hm
  | round p q r s => exact keptOr_WT hm
  | alike p q r s => exact keptOr_WT hm
  | beside l m => exact keptOr_WT hm
  | square l m => exact keptOr_WT hm
theorem WT.pt {w : Nat} {p : Pl} (h : WT w (.pt p)) : BP (66 * w - 6) p := HP.bp h
theorem rnd_size {i j k l : Nat} {p q r s : Pl} (hp : HP i p) (hq : HP j q) (hr : HP k r) (hs : HP l s) : Bd (2 * (i + l) + 3) (sqb p s) ∧ Bd (j + k + l + 3) (crossR q r s) ∧ Bd (2 * i + 3 * l + j + k + 6) (rnd1 p q r s) := by
  have h1 := sqb_size hp hs
  have h2 : Bd (j + k + l + 3) (crossR q r s) := by rw [cross_det]; exact det3_size hq hr hs
  exact ⟨h1, h2, (h1.mul h2).mono (by omega)⟩
theorem cut_sizes {m v n : Nat} {l : Ln} {C : Ci} (n0 : 0 < n) (hC : HC m v C) (hl : BL n l) (h1 : 3 * n + 2 * m + 2 < 13300) (h2 : 2 * (m + v) + 2 * m + 4 * n + 14 < 13300) (h3 : 4 * m + 9 * n + v + 12 < 13300) : SzCut l C := by
  refine ⟨n, m, 2 * (m + v) + 3, m + n + 2, (m + v) + m + 2 * n + 6, n0, hl, hC.bp, hC.bs, eR_size hC hl, h1, by omega, by omega, by omega⟩
theorem RW.szM : ∀ {r : Rm} {w : Nat}, RW r w → w ≤ 40 → SzM r := by
  intro r w h hw
  cases r with
  | free x y => trivial
  | middle p q =>
    obtain ⟨a, b, a1, b1, ha, hb, rfl⟩ := h
    exact ⟨_, _, ha.pt, hb.pt, by omega⟩
  | next p q =>
    obtain ⟨a, b, a1, b1, ha, hb, rfl⟩ := h
    exact ⟨_, _, ha.pt, hb.pt, by omega⟩
  | turn p q =>
    obtain ⟨a, b, a1, b1, ha, hb, rfl⟩ := h
    exact ⟨_, _, ha.pt, hb.pt, by omega⟩
  | share p q t =>
    obtain ⟨⟨t1, t2⟩, a, b, a1, b1, ha, hb, rfl⟩ := h
    exact ⟨_, _, 3, ha.pt, hb.pt, ⟨by unfold Bz; omega, by unfold Bz; omega⟩, by omega⟩
  | foot p l =>
    obtain ⟨a, b, a1, b1, ha, hb, rfl⟩ := h
    exact ⟨hb.1, _, _, ha.pt, hb.2, by omega⟩
  | mirror p l =>
    obtain ⟨a, b, a1, b1, ha, hb, rfl⟩ := h
    exact ⟨hb.1, _, _, _, ha.pt, hb.2, (HP.foot hb.1 ha hb.2).bp, by omega, by omega⟩
  | meet l m =>
    obtain ⟨a, b, a1, b1, ha, hb, rfl⟩ := h
    exact ⟨_, _, ha.2, hb.2, by omega⟩
  | cutL l C k =>
    obtain ⟨hk, a, b, a1, b1, ha, ⟨m, v, hC, hmv, m0, v0⟩, rfl⟩ := h
    exact ⟨ha.1, cut_sizes (by omega) hC ha.2 (by omega) (by omega) (by omega), hk⟩
  | cutC A B k =>
    obtain ⟨hk, a, b, a1, b1, ⟨m, v, hA, hmv, m0, v0⟩, ⟨m', v', hB, hmv', m0', v0'⟩, rfl⟩ := h
    refine ⟨fun ne => ⟨⟨_, _, _, _, hA.bp, hB.bp, hA.bs, hB.bs, by omega⟩, cut_sizes (by omega) hA (BL.betw ne hA hB) (by omega) (by omega) (by omega)⟩, hk⟩
  | line p q =>
    obtain ⟨a, b, a1, b1, ha, hb, rfl⟩ := h
    exact ⟨_, _, ha.pt, hb.pt, by omega⟩
  | along p l =>
    obtain ⟨a, b, a1, b1, ha, hb, rfl⟩ := h
    exact ⟨hb.1, _, _, ha.pt, hb.2, by omega⟩
  | upright p l =>
    obtain ⟨a, b, a1, b1, ha, hb, rfl⟩ := h
    exact ⟨hb.1, _, _, ha.pt, hb.2, by omega⟩
  | circle p q =>
    obtain ⟨a, b, a1, b1, ha, hb, rfl⟩ := h
    exact ⟨_, _, ha.pt, hb.pt, by omega⟩
  | inline p q r =>
    obtain ⟨a, b, c, a1, b1, c1, ha, hb, hc, rfl⟩ := h
    exact ⟨_, _, _, ha.pt, hb.pt, hc.pt, by omega⟩
  | round p q r s =>
    obtain ⟨a, b, c, d, a1, b1, c1, d1, ha, hb, hc, hd, rfl⟩ := h
    obtain ⟨x1, x2, x3⟩ := rnd_size ha hb hc hd
    obtain ⟨y1, y2, y3⟩ := rnd_size hb hc ha hd
    obtain ⟨z1, z2, z3⟩ := rnd_size hc ha hb hd
    exact ⟨⟨_, _, _, _, _, _, _, ha.pt, hb.pt, hc.pt, hd.pt, x3, y3, z3, by omega, by omega⟩, ⟨_, _, x1, x2, by omega⟩, ⟨_, _, y1, y2, by omega⟩, ⟨_, _, z1, z2, by omega⟩⟩
  | alike p q r s =>
    obtain ⟨a, b, c, d, a1, b1, c1, d1, ha, hb, hc, hd, rfl⟩ := h
    exact ⟨_, _, _, _, ha.pt, hb.pt, hc.pt, hd.pt, by omega, by omega⟩
  | beside l m =>
    obtain ⟨a, b, a1, b1, ha, hb, rfl⟩ := h
    exact ⟨_, _, ha.2, hb.2, by omega⟩
  | square l m =>
    obtain ⟨a, b, a1, b1, ha, hb, rfl⟩ := h
    exact ⟨_, _, ha.2, hb.2, by omega⟩
theorem WT.szT {w : Nat} (hw : w ≤ 40) : ∀ {t : Tl}, WT w t → SzT 6000 t := by
  intro t h
  cases t with
  | pt p => exact (WT.pt h).mono (by omega)
  | line l => exact ⟨h.1, h.2.mono (by omega)⟩
  | circle C =>
    obtain ⟨m, v, hC, h1, h2, h3⟩ := h
    exact ⟨hC.bp.mono (by omega), hC.bs.mono (by omega)⟩
  | _ => trivial
theorem RW.szG : ∀ {r : Rm} {w : Nat}, RW r w → w ≤ 40 → SzG 6000 r := by
  intro r w h hw
  refine ⟨by decide, by decide, ?_, ?_⟩
  · intro t ht
    have two : ∀ {a b : Nat} {x y : Tl}, a ≤ 40 → b ≤ 40 → WT a x → WT b y → t ∈ [x, y] → SzT 6000 t := fun ha hb hx hy hm => by
      simp only [List.mem_cons, List.not_mem_nil, or_false] at hm
      rcases hm with rfl | rfl
      · exact hx.szT ha
      · exact hy.szT hb
    cases r with
    | free x y => cases ht
    | middle p q | next p q | turn p q | line p q | circle p q => obtain ⟨a, b, a1, b1, ha, hb, rfl⟩ := h; exact two (by omega) (by omega) ha hb ht
    | share p q t => obtain ⟨_, a, b, a1, b1, ha, hb, rfl⟩ := h; exact two (by omega) (by omega) ha hb ht
    | foot p l | mirror p l | along p l | upright p l | meet l m | beside l m | square l m => obtain ⟨a, b, a1, b1, ha, hb, rfl⟩ := h; exact two (by omega) (by omega) ha hb ht
    | cutL l C k | cutC A B k => obtain ⟨_, a, b, a1, b1, ha, hb, rfl⟩ := h; exact two (by omega) (by omega) ha hb ht
    | inline p q r =>
      obtain ⟨a, b, c, a1, b1, c1, ha, hb, hc, rfl⟩ := h
      simp only [rts, List.mem_cons, List.not_mem_nil, or_false] at ht
      rcases ht with rfl | rfl | rfl
      · exact ha.szT (by omega)
      · exact hb.szT (by omega)
      · exact hc.szT (by omega)
    | round p q r s | alike p q r s =>
      obtain ⟨a, b, c, d, a1, b1, c1, d1, ha, hb, hc, hd, rfl⟩ := h
      simp only [rts, List.mem_cons, List.not_mem_nil, or_false] at ht
      rcases ht with rfl | rfl | rfl | rfl
      · exact ha.szT (by omega)
      · exact hb.szT (by omega)
      · exact hc.szT (by omega)
      · exact hd.szT (by omega)
  · cases r with
    | share p q t =>
      obtain ⟨⟨t1, t2⟩, _⟩ := h
      exact (show Bd 3 t from ⟨by unfold Bz; omega, by unfold Bz; omega⟩).mono (by decide)
    | _ => trivial
theorem cutL_szF {m v n : Nat} {l : Ln} {C : Ci} (n0 : 0 < n) (hC : HC m v C) (hl : BL n l) (h1 : 3 * n + 2 * m + 3 < 13400) (h2 : 4 * n + 2 < 13400) (h3 : 2 * (m + v) + 2 * m + 4 * n + 14 < 13300) : SzF (.line l) C := by
  have ba : Bd n (l.a : Rat) := Bd.int hl.a n0
  have bb : Bd n (l.b : Rat) := Bd.int hl.b n0
  have bc : Bd n (l.c : Rat) := Bd.int hl.c n0
  refine ⟨⟨trivial, n, n, m, ba, bb, bc, hC.bp, by omega, h2⟩, m + n + 2, 2 * n + 1, 2 * (m + v) + 3, eR_size hC hl, ?_, hC.bs, by omega⟩
  have e : chN (.line l) C = nR l := (nR_eq l).symm
  rw [e]
  exact Bd.int (nn_size hl) (by omega)
theorem cutC_szF {m v n w : Nat} {A B : Ci} (hA : HC m v A) (hB : HC n w B) (h1 : 20 * m + 26 * n + 4 * v + 6 * w + 100 < 13300) : SzF (.circle A) B := by
  have bA := hA.bp
  have bB := hB.bp
  have ax : Bd m A.x := bA.x
  have ay : Bd m A.y := bA.y
  have bx : Bd n B.x := bB.x
  have by_ : Bd n B.y := bB.y
  have sA := hA.bs
  have sB := hB.bs
  have za : Bd (m + n + 3) (btA A B) := (Bd.two.mul (bx.sub ax)).mono (by omega)
  have zb : Bd (m + n + 3) (btB A B) := (Bd.two.mul (by_.sub ay)).mono (by omega)
  have fA : Bd (2 * (m + v) + 4 * m + 6) (far A) := (sA.sub ((ax.mul ax).add (ay.mul ay))).mono (by omega)
  have fB : Bd (2 * (n + w) + 4 * n + 6) (far B) := (sB.sub ((bx.mul bx).add (by_.mul by_))).mono (by omega)
  have zc : Bd (2 * (m + v) + 4 * m + 2 * (n + w) + 4 * n + 13) (btC A B) := (fA.sub fB).mono (by omega)
  have ze : Bd (2 * (m + v) + 6 * m + 2 * (n + w) + 8 * n + 24) (chE (.circle A) B) := (zc.sub ((za.mul bx).add (zb.mul by_))).mono (by omega)
  have zn : Bd (4 * m + 4 * n + 13) (chN (.circle A) B) := ((za.mul za).add (zb.mul zb)).mono (by omega)
  exact ⟨⟨⟨_, _, _, _, bA, bB, sA, sB, by omega⟩, _, _, _, za, zb, zc, bB, by omega, by omega⟩, _, _, _, ze, zn, sB, by omega⟩
theorem RW.szFl : ∀ {r : Rm} {w : Nat}, RW r w → w ≤ 40 → SzFl r := by
  intro r w h hw
  cases r with
  | meet l m =>
    obtain ⟨a, b, a1, b1, ha, hb, rfl⟩ := h
    exact ⟨_, _, ha.2, hb.2, by omega⟩
  | cutL l C k =>
    obtain ⟨hk, a, b, a1, b1, ha, ⟨m, v, hC, hmv, m0, v0⟩, rfl⟩ := h
    exact cutL_szF (by omega) hC ha.2 (by omega) (by omega) (by omega)
  | cutC A B k =>
    obtain ⟨hk, a, b, a1, b1, ⟨m, v, hA, hmv, m0, v0⟩, ⟨m', v', hB, hmv', m0', v0'⟩, rfl⟩ := h
    exact fun ne => cutC_szF hA hB (by omega)
  | _ => trivial
theorem RW.szK : ∀ {r : Rm} {w : Nat}, RW r w → w ≤ 40 → SzK 6000 r := by
  intro r w h hw
  have hF := h.szFl hw
  cases r with
  | cutL l C k => exact ⟨hF, h.1⟩
  | cutC A B k => exact ⟨hF, h.1⟩
  | inline p q r =>
    obtain ⟨a, b, c, a1, b1, c1, ha, hb, hc, rfl⟩ := h
    exact ⟨_, _, _, ha.pt, hb.pt, hc.pt, by omega⟩
  | round p q r s =>
    obtain ⟨a, b, c, d, a1, b1, c1, d1, ha, hb, hc, hd, rfl⟩ := h
    exact ⟨_, _, _, _, 66 * (a + (b + (c + d))), ⟨ha.pt, hb.pt, hc.pt, hd.pt⟩, ⟨(det3_size hb hc hd).mono (by omega), (det3_size ha hc hd).mono (by omega), (det3_size ha hb hd).mono (by omega), (det3_size ha hb hc).mono (by omega)⟩, by omega, by omega⟩
  | alike p q r s =>
    obtain ⟨a, b, c, d, a1, b1, c1, d1, ha, hb, hc, hd, rfl⟩ := h
    exact ⟨ha.pt.mono (by omega), hb.pt.mono (by omega), hc.pt.mono (by omega), hd.pt.mono (by omega)⟩
  | beside l m =>
    obtain ⟨a, b, a1, b1, ha, hb, rfl⟩ := h
    exact ⟨ha.2.mono (by omega), hb.2.mono (by omega)⟩
  | square l m =>
    obtain ⟨a, b, a1, b1, ha, hb, rfl⟩ := h
    exact ⟨ha.2.mono (by omega), hb.2.mono (by omega)⟩
  | _ => trivial
end Mb
set_option Elab.async false
set_option linter.all false
set_option maxRecDepth 100000
set_option maxHeartbeats 0
/-! The text by places, what the top leaves (one pass over the module's names), the run of the top. -/
namespace Mb
open PySem PySem.Spec PyProof.Rows L2
def top (i : Nat) : Stmt := PySem.Challenge.pw_movebook_k31_whole_tellings.main.body.getD i (.Pass ⟨0, 0, 0, 0⟩)
abbrev s_divisor : Stmt := top 10
abbrev s_fraction : Stmt := top 11
abbrev s_plus : Stmt := top 12
abbrev s_minus : Stmt := top 13
abbrev s_times : Stmt := top 14
abbrev s_over : Stmt := top 15
abbrev s_less : Stmt := top 16
abbrev s_whole_root : Stmt := top 17
abbrev s_root : Stmt := top 18
abbrev s_share : Stmt := top 20
abbrev s_middle : Stmt := top 21
abbrev s_beyond : Stmt := top 22
abbrev s_turned : Stmt := top 23
abbrev s_one_form : Stmt := top 25
abbrev s_over_one : Stmt := top 26
abbrev s_through : Stmt := top 27
abbrev s_along : Stmt := top 28
abbrev s_upright : Stmt := top 29
abbrev s_meet : Stmt := top 30
abbrev s_foot : Stmt := top 31
abbrev s_mirror : Stmt := top 32
abbrev s_square_between : Stmt := top 34
abbrev s_about : Stmt := top 35
abbrev s_ahead : Stmt := top 36
abbrev s_line_cuts : Stmt := top 37
abbrev s_between_line : Stmt := top 38
abbrev s_ring_cuts : Stmt := top 39
abbrev s_cross : Stmt := top 41
abbrev s_in_line : Stmt := top 42
abbrev s_side_by_side : Stmt := top 43
abbrev s_square_on : Stmt := top 44
abbrev s_all_round : Stmt := top 45
abbrev s_as_far : Stmt := top 46
abbrev s_sort_of : Stmt := top 52
abbrev s_grounds : Stmt := top 53
abbrev s_asked_sorts : Stmt := top 54
abbrev s_suits : Stmt := top 55
abbrev s_within : Stmt := top 56
abbrev s_too_far : Stmt := top 57
abbrev s_good : Stmt := top 61
abbrev s_weigh : Stmt := top 64
abbrev s_grounds_stand : Stmt := top 65
abbrev s_admitted : Stmt := top 66
abbrev s_judged : Stmt := top 70
abbrev s_shown_or : Stmt := top 71
abbrev s_cut_made : Stmt := top 72
abbrev s_made_of : Stmt := top 73
abbrev s_telling_of : Stmt := top 74
abbrev s_tellings_of : Stmt := top 75
abbrev s_anew : Stmt := top 76
abbrev s_law_pool : Stmt := top 78
abbrev s_law_take : Stmt := top 79
abbrev s_law_gcd : Stmt := top 80
abbrev s_law_low : Stmt := top 81
abbrev s_law_plus : Stmt := top 82
abbrev s_law_less : Stmt := top 83
abbrev s_law_times : Stmt := top 84
abbrev s_law_even : Stmt := top 85
abbrev s_law_whole : Stmt := top 86
abbrev s_law_is_frac : Stmt := top 87
abbrev s_law_is_place : Stmt := top 88
abbrev s_law_is_line : Stmt := top 89
abbrev s_law_frac : Stmt := top 90
abbrev s_law_place : Stmt := top 91
abbrev s_law_grounds : Stmt := top 92
abbrev s_law_sort : Stmt := top 93
abbrev s_law_weight : Stmt := top 94
abbrev s_law_making : Stmt := top 95
abbrev s_law_near : Stmt := top 96
abbrev s_law_off : Stmt := top 97
abbrev s_law_det : Stmt := top 98
abbrev s_law_so : Stmt := top 99
abbrev s_law_root : Stmt := top 100
abbrev s_law_chord : Stmt := top 101
abbrev s_law_parts : Stmt := top 102
abbrev s_law_fail : Stmt := top 103
abbrev s_law_first : Stmt := top 104
abbrev s_law_on_way : Stmt := top 105
abbrev s_law_point : Stmt := top 106
abbrev s_law_line_fits : Stmt := top 107
abbrev s_law_fits : Stmt := top 108
abbrev s_law_holds : Stmt := top 109
abbrev s_law_plain_place : Stmt := top 110
abbrev s_law_plain_row : Stmt := top 111
abbrev s_law : Stmt := top 112
/-! ### what a name holds, as far as it is looked at -/
abbrev FnV : Type := Str × Str × Arguments × FuncBody × Scope × Addr × List (Str × Addr) × Addr
inductive D2 where
  | non | str (x : Str) | tup (l : List (Option Str)) | fn (w : FnV) (ok : Bool)
inductive D1 where
  | non | int (i : Int) | str (x : Str) | fn (w : FnV) (ok : Bool) | dic (ok : Bool) (ks : List (Option (Str × Int))) (vs : List D2)
def fdV (fd : FuncData) : FnV := (fd.name, fd.qualname, fd.params, fd.body, fd.scope, fd.globals, fd.closure, fd.builtins)
def fdB (K : PySem.W.Frag) (fd : FuncData) : Bool := (match fd.defaults with | .none => true | _ => false) && PySem.W.codeIn K fd.code fd.qualname
def strO : Value → Option Str
  | .str x _ => some x
  | _ => none
/-- the module's name x is the object at a -/
def same1 (K : PySem.W.Frag) (x : Str) (a : Addr) : Bool := match PySem.W.nsIn K mainGlobals x with
  | some (some (.ref b)) => decide (a = b)
  | _ => false
def desc2 (K : PySem.W.Frag) : Value → D2
  | .str x _ => .str x
  | .ref a => (match K.lookup a with
    | some ⟨.type c, _, .seq its _, _⟩ => (match decide (c = "tuple") && decide (its.size ≤ sizeLine) with
      | true => .tup (its.toList.map strO)
      | false => .non)
    | some ⟨_, _, .func fd, _⟩ => .fn (fdV fd) (same1 K fd.name a)
    | _ => .non)
  | _ => .non
def desc1 (K : PySem.W.Frag) : Value → D1
  | .int i _ => .int i
  | .str x _ => .str x
  | .ref a => (match K.lookup a with
    | some ⟨_, _, .func fd, _⟩ => .fn (fdV fd) (fdB K fd)
    | some ⟨.type c, none, .dict es _, sl⟩ => .dic (decide (c = "dict") && (sl.isEmpty && !(a == sysModules))) (es.toList.map He.keyOf) (es.toList.map fun e => desc2 K e.val)
    | _ => .non)
  | _ => .non
def entsK (K : PySem.W.Frag) : List DictEntry := match K.lookup mainGlobals with
  | some ⟨_, _, .dict es _, _⟩ => es.toList
  | _ => []
def obsK (K : PySem.W.Frag) : List (Option Str) × List D1 := ((entsK K).map fun e => strO e.key, ((entsK K).drop 9).map fun e => desc1 K e.val)
/-! ### where one looks -/
def ents (g : Addr → Option Obj) : List DictEntry := match g mainGlobals with
  | some ⟨_, _, .dict es _, _⟩ => es.toList
  | _ => []
def codeOf (g : Addr → Option Obj) : Value → List Addr
  | .ref a => a :: (match g a with
    | some ⟨_, _, .func fd, _⟩ => He.refV fd.code
    | _ => [])
  | _ => []
def at1 (g : Addr → Option Obj) : Value → List Addr
  | .ref a => a :: (match g a with
    | some ⟨_, _, .func fd, _⟩ => He.refV fd.code
    | some ⟨.type _, _, .dict es _, _⟩ => es.toList.flatMap fun e => codeOf g e.val
    | _ => [])
  | _ => []
def asM (g : Addr → Option Obj) : List Addr := mainGlobals :: ((ents g).drop 9).flatMap fun e => at1 g e.val
/-! ### what is expected -/
def fnD (x : Str) (st : Stmt) : FnV := (x, x, defArgs st, .stmts (defBody st), defScope st, mainGlobals, [], builtinsNs)
def keys_SORTS : List Str := [("free" : Str), ("middle" : Str), ("share" : Str), ("next" : Str), ("turn" : Str), ("foot" : Str), ("mirror" : Str), ("meet" : Str), ("cut" : Str), ("line" : Str), ("along" : Str), ("upright" : Str), ("circle" : Str), ("inline" : Str), ("round" : Str), ("alike" : Str), ("beside" : Str), ("square" : Str)]
def vals_SORTS : List D2 := [.str "point", .str "point", .str "point", .str "point", .str "point", .str "point", .str "point", .str "point", .str "point", .str "line", .str "line", .str "line", .str "circle", .str "claim", .str "claim", .str "claim", .str "claim", .str "claim"]
def keys_ASKED : List Str := [("free" : Str), ("middle" : Str), ("share" : Str), ("next" : Str), ("turn" : Str), ("foot" : Str), ("mirror" : Str), ("meet" : Str), ("cut" : Str), ("line" : Str), ("along" : Str), ("upright" : Str), ("circle" : Str), ("inline" : Str), ("round" : Str), ("alike" : Str), ("beside" : Str), ("square" : Str)]
def vals_ASKED : List D2 := [.tup [], .tup [some "point", some "point"], .tup [some "point", some "point"], .tup [some "point", some "point"], .tup [some "point", some "point"], .tup [some "point", some "line"], .tup [some "point", some "line"], .tup [some "line", some "line"], .tup [some "curve", some "circle"], .tup [some "point", some "point"], .tup [some "point", some "line"], .tup [some "point", some "line"], .tup [some "point", some "point"], .tup [some "point", some "point", some "point"], .tup [some "point", some "point", some "point", some "point"], .tup [some "point", some "point", some "point", some "point"], .tup [some "line", some "line"], .tup [some "line", some "line"]]
def keys_PLACES : List Str := [("middle" : Str), ("next" : Str), ("turn" : Str), ("foot" : Str), ("mirror" : Str)]
def vals_PLACES : List D2 := [.fn (fnD "middle" s_middle) true, .fn (fnD "beyond" s_beyond) true, .fn (fnD "turned" s_turned) true, .fn (fnD "foot" s_foot) true, .fn (fnD "mirror" s_mirror) true]
def keys_LINES : List Str := [("line" : Str), ("along" : Str), ("upright" : Str)]
def vals_LINES : List D2 := [.fn (fnD "through" s_through) true, .fn (fnD "along" s_along) true, .fn (fnD "upright" s_upright) true]
def nam0 : List (Option Str) := [some ("__name__" : Str), some ("__doc__" : Str), some ("__package__" : Str), some ("__loader__" : Str), some ("__spec__" : Str), some ("__annotations__" : Str), some ("__builtins__" : Str), some ("__file__" : Str), some ("__cached__" : Str), some ("BookError" : Str), some ("BadName" : Str), some ("Taken" : Str), some ("NoThing" : Str), some ("WrongSort" : Str), some ("Far" : Str), some ("TooHeavy" : Str), some ("NoNumber" : Str), some ("divisor" : Str), some ("fraction" : Str), some ("plus" : Str), some ("minus" : Str), some ("times" : Str), some ("over" : Str), some ("less" : Str)]
def nam1 : List (Option Str) := [some ("whole_root" : Str), some ("root" : Str), some ("share" : Str), some ("middle" : Str), some ("beyond" : Str), some ("turned" : Str), some ("one_form" : Str), some ("over_one" : Str), some ("through" : Str), some ("along" : Str), some ("upright" : Str), some ("meet" : Str), some ("foot" : Str), some ("mirror" : Str), some ("square_between" : Str), some ("about" : Str), some ("ahead" : Str), some ("line_cuts" : Str), some ("between_line" : Str), some ("ring_cuts" : Str), some ("cross" : Str), some ("in_line" : Str), some ("side_by_side" : Str), some ("square_on" : Str)]
def nam2 : List (Option Str) := [some ("all_round" : Str), some ("as_far" : Str), some ("FREE_MOST" : Str), some ("SHARE_MOST" : Str), some ("SORTS" : Str), some ("ASKED" : Str), some ("sort_of" : Str), some ("grounds" : Str), some ("asked_sorts" : Str), some ("suits" : Str), some ("within" : Str), some ("too_far" : Str), some ("LETTERS" : Str), some ("FIGURES" : Str), some ("good" : Str), some ("MOST" : Str), some ("weigh" : Str), some ("grounds_stand" : Str), some ("admitted" : Str), some ("PLACES" : Str), some ("LINES" : Str), some ("judged" : Str), some ("shown_or" : Str), some ("cut_made" : Str)]
def nam3 : List (Option Str) := [some ("made_of" : Str), some ("telling_of" : Str), some ("tellings_of" : Str), some ("anew" : Str), some ("_law_pool" : Str), some ("_law_take" : Str), some ("_law_gcd" : Str), some ("_law_low" : Str), some ("_law_plus" : Str), some ("_law_less" : Str), some ("_law_times" : Str), some ("_law_even" : Str), some ("_law_whole" : Str), some ("_law_is_frac" : Str), some ("_law_is_place" : Str), some ("_law_is_line" : Str), some ("_law_frac" : Str), some ("_law_place" : Str), some ("_law_grounds" : Str), some ("_law_sort" : Str), some ("_law_weight" : Str), some ("_law_making" : Str), some ("_law_near" : Str), some ("_law_off" : Str)]
def nam4 : List (Option Str) := [some ("_law_det" : Str), some ("_law_so" : Str), some ("_law_root" : Str), some ("_law_chord" : Str), some ("_law_parts" : Str), some ("_law_fail" : Str), some ("_law_first" : Str), some ("_law_on_way" : Str), some ("_law_point" : Str), some ("_law_line_fits" : Str), some ("_law_fits" : Str), some ("_law_holds" : Str), some ("_law_plain_place" : Str), some ("_law_plain_row" : Str), some ("law" : Str)]
def namA : List (Option Str) := nam0 ++ (nam1 ++ (nam2 ++ (nam3 ++ (nam4))))
def exp0 (w : World) : List D1 := [
  (.non : D1),
  (.non : D1),
  (.non : D1),
  (.non : D1),
  (.non : D1),
  (.non : D1),
  (.non : D1),
  (.non : D1),
  (.fn (fnD "divisor" s_divisor) true : D1),
  (.fn (fnD "fraction" s_fraction) true : D1),
  (.fn (fnD "plus" s_plus) true : D1),
  (.fn (fnD "minus" s_minus) true : D1),
  (.fn (fnD "times" s_times) true : D1),
  (.fn (fnD "over" s_over) true : D1),
  (.fn (fnD "less" s_less) true : D1),
  (.fn (fnD "whole_root" s_whole_root) true : D1),
  (.fn (fnD "root" s_root) true : D1),
  (.fn (fnD "share" s_share) true : D1),
  (.fn (fnD "middle" s_middle) true : D1),
  (.fn (fnD "beyond" s_beyond) true : D1),
  (.fn (fnD "turned" s_turned) true : D1),
  (.fn (fnD "one_form" s_one_form) true : D1),
  (.fn (fnD "over_one" s_over_one) true : D1),
  (.fn (fnD "through" s_through) true : D1)]
def exp1 (w : World) : List D1 := [
  (.fn (fnD "along" s_along) true : D1),
  (.fn (fnD "upright" s_upright) true : D1),
  (.fn (fnD "meet" s_meet) true : D1),
  (.fn (fnD "foot" s_foot) true : D1),
  (.fn (fnD "mirror" s_mirror) true : D1),
  (.fn (fnD "square_between" s_square_between) true : D1),
  (.fn (fnD "about" s_about) true : D1),
  (.fn (fnD "ahead" s_ahead) true : D1),
  (.fn (fnD "line_cuts" s_line_cuts) true : D1),
  (.fn (fnD "between_line" s_between_line) true : D1),
  (.fn (fnD "ring_cuts" s_ring_cuts) true : D1),
  (.fn (fnD "cross" s_cross) true : D1),
  (.fn (fnD "in_line" s_in_line) true : D1),
  (.fn (fnD "side_by_side" s_side_by_side) true : D1),
  (.fn (fnD "square_on" s_square_on) true : D1),
  (.fn (fnD "all_round" s_all_round) true : D1),
  (.fn (fnD "as_far" s_as_far) true : D1),
  (.int 1000000000 : D1),
  (.int 1000 : D1),
  (.dic true (He.keysIn w.params keys_SORTS) vals_SORTS : D1),
  (.dic true (He.keysIn w.params keys_ASKED) vals_ASKED : D1),
  (.fn (fnD "sort_of" s_sort_of) true : D1),
  (.fn (fnD "grounds" s_grounds) true : D1),
  (.fn (fnD "asked_sorts" s_asked_sorts) true : D1)]
def exp2 (w : World) : List D1 := [
  (.fn (fnD "suits" s_suits) true : D1),
  (.fn (fnD "within" s_within) true : D1),
  (.fn (fnD "too_far" s_too_far) true : D1),
  (.str "abcdefghijklmnopqrstuvwxyz" : D1),
  (.str "0123456789" : D1),
  (.fn (fnD "good" s_good) true : D1),
  (.int 40 : D1),
  (.fn (fnD "weigh" s_weigh) true : D1),
  (.fn (fnD "grounds_stand" s_grounds_stand) true : D1),
  (.fn (fnD "admitted" s_admitted) true : D1),
  (.dic true (He.keysIn w.params keys_PLACES) vals_PLACES : D1),
  (.dic true (He.keysIn w.params keys_LINES) vals_LINES : D1),
  (.fn (fnD "judged" s_judged) true : D1),
  (.fn (fnD "shown_or" s_shown_or) true : D1),
  (.fn (fnD "cut_made" s_cut_made) true : D1),
  (.fn (fnD "made_of" s_made_of) true : D1),
  (.fn (fnD "telling_of" s_telling_of) true : D1),
  (.fn (fnD "tellings_of" s_tellings_of) true : D1),
  (.fn (fnD "anew" s_anew) true : D1),
  (.fn (fnD "_law_pool" s_law_pool) true : D1),
  (.fn (fnD "_law_take" s_law_take) true : D1),
  (.fn (fnD "_law_gcd" s_law_gcd) true : D1),
  (.fn (fnD "_law_low" s_law_low) true : D1),
  (.fn (fnD "_law_plus" s_law_plus) true : D1)]
def exp3 (w : World) : List D1 := [
  (.fn (fnD "_law_less" s_law_less) true : D1),
  (.fn (fnD "_law_times" s_law_times) true : D1),
  (.fn (fnD "_law_even" s_law_even) true : D1),
  (.fn (fnD "_law_whole" s_law_whole) true : D1),
  (.fn (fnD "_law_is_frac" s_law_is_frac) true : D1),
  (.fn (fnD "_law_is_place" s_law_is_place) true : D1),
  (.fn (fnD "_law_is_line" s_law_is_line) true : D1),
  (.fn (fnD "_law_frac" s_law_frac) true : D1),
  (.fn (fnD "_law_place" s_law_place) true : D1),
  (.fn (fnD "_law_grounds" s_law_grounds) true : D1),
  (.fn (fnD "_law_sort" s_law_sort) true : D1),
  (.fn (fnD "_law_weight" s_law_weight) true : D1),
  (.fn (fnD "_law_making" s_law_making) true : D1),
  (.fn (fnD "_law_near" s_law_near) true : D1),
  (.fn (fnD "_law_off" s_law_off) true : D1),
  (.fn (fnD "_law_det" s_law_det) true : D1),
  (.fn (fnD "_law_so" s_law_so) true : D1),
  (.fn (fnD "_law_root" s_law_root) true : D1),
  (.fn (fnD "_law_chord" s_law_chord) true : D1),
  (.fn (fnD "_law_parts" s_law_parts) true : D1),
  (.fn (fnD "_law_fail" s_law_fail) true : D1),
  (.fn (fnD "_law_first" s_law_first) true : D1),
  (.fn (fnD "_law_on_way" s_law_on_way) true : D1),
  (.fn (fnD "_law_point" s_law_point) true : D1)]
def exp4 (w : World) : List D1 := [
  (.fn (fnD "_law_line_fits" s_law_line_fits) true : D1),
  (.fn (fnD "_law_fits" s_law_fits) true : D1),
  (.fn (fnD "_law_holds" s_law_holds) true : D1),
  (.fn (fnD "_law_plain_place" s_law_plain_place) true : D1),
  (.fn (fnD "_law_plain_row" s_law_plain_row) true : D1),
  (.fn (fnD "law" s_law) true : D1)]
def expA (w : World) : List D1 := exp0 w ++ (exp1 w ++ (exp2 w ++ (exp3 w ++ (exp4 w))))
abbrev AlE : Type := List (Option Str) × List D1
def hk : PySem.W.Hook where
  α := AlE
  obs := fun s => obsK (He.frG s.heap.get? (asM s.heap.get?))
  val := fun w => (namA, expA w)
  says := fun w h => ∃ K : PySem.W.Frag, K.In h ∧ obsK K = (namA, expA w)
  of := fun _ _ e => ⟨_, He.frG_in, e⟩
  keeps := fun _ _ _ ⟨K, hK, c⟩ k => ⟨K, PySem.W.Frag.In.keeps hK k, c⟩
abbrev R : PySem.W.OpenRow := PySem.W.OpenLaw.row PySem.Challenge.rw_movebook_k31_whole_tellings
def ob (s : PySem.W.SharedT) : AlE := obsK (He.frG (HandSHeadRun.getT s) (asM (HandSHeadRun.getT s)))
theorem ob_eq (s : PySem.W.SharedT) : ob s = hk.obs s.abs := by
  have e : HandSHeadRun.getT s = s.abs.heap.get? := funext (HandSHeadRun.getT_eq s)
  show obsK (He.frG (HandSHeadRun.getT s) (asM (HandSHeadRun.getT s))) = obsK (He.frG s.abs.heap.get? (asM s.abs.heap.get?))
  rw [e]
def loose0 : List Str := [("BookError" : Str), ("BadName" : Str), ("Taken" : Str), ("NoThing" : Str), ("WrongSort" : Str), ("Far" : Str), ("TooHeavy" : Str), ("NoNumber" : Str), ("divisor" : Str), ("fraction" : Str), ("plus" : Str), ("minus" : Str), ("times" : Str), ("over" : Str), ("less" : Str), ("whole_root" : Str), ("root" : Str), ("share" : Str), ("middle" : Str), ("beyond" : Str), ("turned" : Str), ("one_form" : Str), ("over_one" : Str), ("through" : Str), ("along" : Str), ("upright" : Str), ("meet" : Str), ("foot" : Str), ("mirror" : Str), ("square_between" : Str), ("about" : Str), ("ahead" : Str), ("line_cuts" : Str), ("between_line" : Str), ("ring_cuts" : Str)]
def loose1 : List Str := [("cross" : Str), ("in_line" : Str), ("side_by_side" : Str), ("square_on" : Str), ("all_round" : Str), ("as_far" : Str), ("FREE_MOST" : Str), ("SHARE_MOST" : Str), ("SORTS" : Str), ("ASKED" : Str), ("sort_of" : Str), ("grounds" : Str), ("asked_sorts" : Str), ("suits" : Str), ("within" : Str), ("too_far" : Str), ("LETTERS" : Str), ("FIGURES" : Str), ("good" : Str), ("MOST" : Str), ("weigh" : Str), ("grounds_stand" : Str), ("admitted" : Str), ("PLACES" : Str), ("LINES" : Str), ("judged" : Str), ("shown_or" : Str), ("cut_made" : Str), ("made_of" : Str), ("telling_of" : Str), ("tellings_of" : Str), ("anew" : Str), ("_law_pool" : Str), ("_law_take" : Str), ("_law_gcd" : Str)]
def loose2 : List Str := [("_law_low" : Str), ("_law_plus" : Str), ("_law_less" : Str), ("_law_times" : Str), ("_law_even" : Str), ("_law_whole" : Str), ("_law_is_frac" : Str), ("_law_is_place" : Str), ("_law_is_line" : Str), ("_law_frac" : Str), ("_law_place" : Str), ("_law_grounds" : Str), ("_law_sort" : Str), ("_law_weight" : Str), ("_law_making" : Str), ("_law_near" : Str), ("_law_off" : Str), ("_law_det" : Str), ("_law_so" : Str), ("_law_root" : Str), ("_law_chord" : Str), ("_law_parts" : Str), ("_law_fail" : Str), ("_law_first" : Str), ("_law_on_way" : Str), ("_law_point" : Str), ("_law_line_fits" : Str), ("_law_fits" : Str), ("_law_holds" : Str), ("_law_plain_place" : Str), ("_law_plain_row" : Str)]
def loose : List Str := loose0 ++ (loose1 ++ (loose2))
abbrev lawAt : Nat := 112
abbrev RunAt (w : World) : Prop := HandSHeadRun.RunEq R (PySem.W.view R.prog [lawAt]) hk ob 7000 loose w
theorem runF (w : World) : RunAt (w.withFollow "special-get-raises" false) := by
  intro os
  kernel_rfl
theorem runT (w : World) : RunAt (w.withFollow "special-get-raises" true) := by
  intro os
  kernel_rfl
theorem run (w : World) : RunAt w := PySem.W.byRow2 "special-get-raises" (P := RunAt) runF runT w
end Mb
set_option Elab.async false
set_option linter.all false
set_option maxRecDepth 100000
set_option maxHeartbeats 4000000
namespace Mb
open PySem PySem.Spec PyProof.Rows L2
/-! The derivations of the pure defs: printed by gen_der.py. -/
section
variable {P : Program} {w : World} {K : PySem.W.Frag} {mg : Str → Option Value} {base : Heap}
abbrev N_divisor : List Str := [("one" : Str), ("other" : Str)]
abbrev P_divisor : List Str := [("one" : Str), ("other" : Str)]
theorem sc_divisor : FnScope N_divisor P_divisor (defScope s_divisor) := ⟨rfl, rfl, rfl, by decide +kernel, rfl, by decide +kernel, by decide +kernel⟩
theorem der_divisor (m_abs : mg "abs" = none) (f : Addr) (cdv : Value) (A : Around) (outer : List Env) (s : Shared) (H : Hp) (E : XK) (hr : Room 0 (A.deeper (envOfC "divisor" (defScope s_divisor) s.heap.objs.size f cdv))) : PDSs (bodyX P w K mg base N_divisor "divisor" s_divisor f cdv A outer s H E) (defBody s_divisor) (t_divisor) :=
  (pdss_cons (pds_set (i := 0) sc_divisor.nd (pd_callB call_abs lk_abs gAbs_mo rfl m_abs boot_abs (dv 0)))
    (pdss_cons (pds_set (i := 1) sc_divisor.nd (pd_callB call_abs lk_abs gAbs_mo rfl m_abs boot_abs (dv 1)))
    (pdss_cons (pds_while PassesOwn.never (ptd_cmp op_gt lk_int cInt_mo (dv 1) pd_int (nomark _)) (pdss_one (pds_par (i := 0) (j := 1) rfl sc_divisor.nd (pda_cons (dv 1) (pda_cons (pd_op op_modN lk_mod gMod_mo (dv 0) (dv 1)) pda_nil)))))
    (pdss_one (pds_ret (dv 0))))))
abbrev N_fraction : List Str := [("top" : Str), ("bottom" : Str), ("most" : Str)]
abbrev P_fraction : List Str := [("top" : Str), ("bottom" : Str)]
theorem sc_fraction : FnScope N_fraction P_fraction (defScope s_fraction) := ⟨rfl, rfl, rfl, by decide +kernel, rfl, by decide +kernel, by decide +kernel⟩
theorem der_fraction {c_divisor : Ct} (h_divisor : Has P w K mg base 1 "divisor" 2 c_divisor) (f : Addr) (cdv : Value) (A : Around) (outer : List Env) (s : Shared) (H : Hp) (E : XK) (hr : Room 1 (A.deeper (envOfC "fraction" (defScope s_fraction) s.heap.objs.size f cdv))) : PDSs (bodyX P w K mg base N_fraction "fraction" s_fraction f cdv A outer s H E) (defBody s_fraction) (t_fraction c_divisor) :=
  (pdss_cons (pds_if (ptd_cmp (op_eqA hr.units) lk_eq cEq_mo (dv 1) pd_int (nomark _)) (pdss_one pds_never) pdss_nil)
    (pdss_cons (pds_set (i := 2) sc_fraction.nd (pd_call h_divisor (hr.mono (by decide)) rfl (pda_cons (dv 0) (pda_cons (dv 1) pda_nil))))
    (pdss_cons (pds_if (ptd_cmp op_lt lk_int cInt_mo (dv 1) pd_int (nomark _)) (pdss_one (pds_set (i := 2) sc_fraction.nd (pd_un un_neg lk_neg gNeg_mo (dv 2)))) pdss_nil)
    (pdss_one (pds_ret (pd_tup (pda_cons (pd_op op_fdivX lk_fdiv gFdiv_mo (dv 0) (dv 2)) (pda_cons (pd_op op_fdivX lk_fdiv gFdiv_mo (dv 1) (dv 2)) pda_nil))))))))
abbrev N_plus : List Str := [("one" : Str), ("other" : Str)]
abbrev P_plus : List Str := [("one" : Str), ("other" : Str)]
theorem sc_plus : FnScope N_plus P_plus (defScope s_plus) := ⟨rfl, rfl, rfl, by decide +kernel, rfl, by decide +kernel, by decide +kernel⟩
theorem der_plus {c_fraction : Ct} (h_fraction : Has P w K mg base 2 "fraction" 2 c_fraction) (f : Addr) (cdv : Value) (A : Around) (outer : List Env) (s : Shared) (H : Hp) (E : XK) (hr : Room 2 (A.deeper (envOfC "plus" (defScope s_plus) s.heap.objs.size f cdv))) : PDSs (bodyX P w K mg base N_plus "plus" s_plus f cdv A outer s H E) (defBody s_plus) (t_plus c_fraction) :=
  (pdss_one (pds_ret (pd_call h_fraction (hr.mono (by decide)) rfl (pda_cons (pd_op op_add lk_add gAdd_mo (pd_op op_mulW lk_mul gMul_mo (pd_ix ix_tl lk_ix gIx_mo (dv 0) pd_int) (pd_ix ix_tl lk_ix gIx_mo (dv 1) pd_int)) (pd_op op_mulW lk_mul gMul_mo (pd_ix ix_tl lk_ix gIx_mo (dv 1) pd_int) (pd_ix ix_tl lk_ix gIx_mo (dv 0) pd_int))) (pda_cons (pd_op op_mulW lk_mul gMul_mo (pd_ix ix_tl lk_ix gIx_mo (dv 0) pd_int) (pd_ix ix_tl lk_ix gIx_mo (dv 1) pd_int)) pda_nil)))))
abbrev N_minus : List Str := [("one" : Str), ("other" : Str)]
abbrev P_minus : List Str := [("one" : Str), ("other" : Str)]
theorem sc_minus : FnScope N_minus P_minus (defScope s_minus) := ⟨rfl, rfl, rfl, by decide +kernel, rfl, by decide +kernel, by decide +kernel⟩
theorem der_minus {c_fraction : Ct} (h_fraction : Has P w K mg base 2 "fraction" 2 c_fraction) (f : Addr) (cdv : Value) (A : Around) (outer : List Env) (s : Shared) (H : Hp) (E : XK) (hr : Room 2 (A.deeper (envOfC "minus" (defScope s_minus) s.heap.objs.size f cdv))) : PDSs (bodyX P w K mg base N_minus "minus" s_minus f cdv A outer s H E) (defBody s_minus) (t_minus c_fraction) :=
  (pdss_one (pds_ret (pd_call h_fraction (hr.mono (by decide)) rfl (pda_cons (pd_op op_sub lk_sub gSub_mo (pd_op op_mulW lk_mul gMul_mo (pd_ix ix_tl lk_ix gIx_mo (dv 0) pd_int) (pd_ix ix_tl lk_ix gIx_mo (dv 1) pd_int)) (pd_op op_mulW lk_mul gMul_mo (pd_ix ix_tl lk_ix gIx_mo (dv 1) pd_int) (pd_ix ix_tl lk_ix gIx_mo (dv 0) pd_int))) (pda_cons (pd_op op_mulW lk_mul gMul_mo (pd_ix ix_tl lk_ix gIx_mo (dv 0) pd_int) (pd_ix ix_tl lk_ix gIx_mo (dv 1) pd_int)) pda_nil)))))
abbrev N_times : List Str := [("one" : Str), ("other" : Str)]
abbrev P_times : List Str := [("one" : Str), ("other" : Str)]
theorem sc_times : FnScope N_times P_times (defScope s_times) := ⟨rfl, rfl, rfl, by decide +kernel, rfl, by decide +kernel, by decide +kernel⟩
theorem der_times {c_fraction : Ct} (h_fraction : Has P w K mg base 2 "fraction" 2 c_fraction) (f : Addr) (cdv : Value) (A : Around) (outer : List Env) (s : Shared) (H : Hp) (E : XK) (hr : Room 2 (A.deeper (envOfC "times" (defScope s_times) s.heap.objs.size f cdv))) : PDSs (bodyX P w K mg base N_times "times" s_times f cdv A outer s H E) (defBody s_times) (t_times c_fraction) :=
  (pdss_one (pds_ret (pd_call h_fraction (hr.mono (by decide)) rfl (pda_cons (pd_op op_mulW lk_mul gMul_mo (pd_ix ix_tl lk_ix gIx_mo (dv 0) pd_int) (pd_ix ix_tl lk_ix gIx_mo (dv 1) pd_int)) (pda_cons (pd_op op_mulW lk_mul gMul_mo (pd_ix ix_tl lk_ix gIx_mo (dv 0) pd_int) (pd_ix ix_tl lk_ix gIx_mo (dv 1) pd_int)) pda_nil)))))
abbrev N_over : List Str := [("one" : Str), ("other" : Str)]
abbrev P_over : List Str := [("one" : Str), ("other" : Str)]
theorem sc_over : FnScope N_over P_over (defScope s_over) := ⟨rfl, rfl, rfl, by decide +kernel, rfl, by decide +kernel, by decide +kernel⟩
theorem der_over {c_fraction : Ct} (h_fraction : Has P w K mg base 2 "fraction" 2 c_fraction) (f : Addr) (cdv : Value) (A : Around) (outer : List Env) (s : Shared) (H : Hp) (E : XK) (hr : Room 2 (A.deeper (envOfC "over" (defScope s_over) s.heap.objs.size f cdv))) : PDSs (bodyX P w K mg base N_over "over" s_over f cdv A outer s H E) (defBody s_over) (t_over c_fraction) :=
  (pdss_one (pds_ret (pd_call h_fraction (hr.mono (by decide)) rfl (pda_cons (pd_op op_mulW lk_mul gMul_mo (pd_ix ix_tl lk_ix gIx_mo (dv 0) pd_int) (pd_ix ix_tl lk_ix gIx_mo (dv 1) pd_int)) (pda_cons (pd_op op_mulW lk_mul gMul_mo (pd_ix ix_tl lk_ix gIx_mo (dv 0) pd_int) (pd_ix ix_tl lk_ix gIx_mo (dv 1) pd_int)) pda_nil)))))
abbrev N_less : List Str := [("one" : Str), ("other" : Str)]
abbrev P_less : List Str := [("one" : Str), ("other" : Str)]
theorem sc_less : FnScope N_less P_less (defScope s_less) := ⟨rfl, rfl, rfl, by decide +kernel, rfl, by decide +kernel, by decide +kernel⟩
theorem der_less  (f : Addr) (cdv : Value) (A : Around) (outer : List Env) (s : Shared) (H : Hp) (E : XK) (hr : Room 0 (A.deeper (envOfC "less" (defScope s_less) s.heap.objs.size f cdv))) : PDSs (bodyX P w K mg base N_less "less" s_less f cdv A outer s H E) (defBody s_less) (t_less) :=
  (pdss_one (pds_ret (pd_cmp op_lt lk_int cInt_mo (pd_op op_mulW lk_mul gMul_mo (pd_ix ix_tl lk_ix gIx_mo (dv 0) pd_int) (pd_ix ix_tl lk_ix gIx_mo (dv 1) pd_int)) (pd_op op_mulW lk_mul gMul_mo (pd_ix ix_tl lk_ix gIx_mo (dv 1) pd_int) (pd_ix ix_tl lk_ix gIx_mo (dv 0) pd_int)) (nomark _))))
abbrev N_whole_root : List Str := [("number" : Str), ("low" : Str), ("high" : Str), ("amid" : Str)]
abbrev P_whole_root : List Str := [("number" : Str)]
theorem sc_whole_root : FnScope N_whole_root P_whole_root (defScope s_whole_root) := ⟨rfl, rfl, rfl, by decide +kernel, rfl, by decide +kernel, by decide +kernel⟩
theorem der_whole_root  (f : Addr) (cdv : Value) (A : Around) (outer : List Env) (s : Shared) (H : Hp) (E : XK) (hr : Room 0 (A.deeper (envOfC "whole_root" (defScope s_whole_root) s.heap.objs.size f cdv))) : PDSs (bodyX P w K mg base N_whole_root "whole_root" s_whole_root f cdv A outer s H E) (defBody s_whole_root) (t_whole_root) :=
  (pdss_cons (pds_set (i := 1) sc_whole_root.nd pd_int)
    (pdss_cons (pds_set (i := 2) sc_whole_root.nd pd_int)
    (pdss_cons (pds_while PassesOwn.never (ptd_cmp op_le lk_int cInt_mo (pd_op op_mulW lk_mul gMul_mo (dv 2) (dv 2)) (dv 0) (nomark _)) (pdss_one (pds_set (i := 2) sc_whole_root.nd (pd_op op_mulW lk_mul gMul_mo (dv 2) pd_int))))
    (pdss_cons (pds_while PassesOwn.never (ptd_cmp op_gt lk_int cInt_mo (pd_op op_sub lk_sub gSub_mo (dv 2) (dv 1)) pd_int (nomark _)) (pdss_cons (pds_set (i := 3) sc_whole_root.nd (pd_op op_fdivX lk_fdiv gFdiv_mo (pd_op op_add lk_add gAdd_mo (dv 1) (dv 2)) pd_int))
    (pdss_one (pds_if (ptd_cmp op_le lk_int cInt_mo (pd_op op_mulW lk_mul gMul_mo (dv 3) (dv 3)) (dv 0) (nomark _)) (pdss_one (pds_set (i := 1) sc_whole_root.nd (dv 3))) (pdss_one (pds_set (i := 2) sc_whole_root.nd (dv 3)))))))
    (pdss_one (pds_ret (dv 1)))))))
abbrev N_root : List Str := [("one" : Str), ("top" : Str), ("bottom" : Str)]
abbrev P_root : List Str := [("one" : Str)]
theorem sc_root : FnScope N_root P_root (defScope s_root) := ⟨rfl, rfl, rfl, by decide +kernel, rfl, by decide +kernel, by decide +kernel⟩
theorem der_root {c_whole_root : Ct} (h_whole_root : Has P w K mg base 1 "whole_root" 1 c_whole_root) (f : Addr) (cdv : Value) (A : Around) (outer : List Env) (s : Shared) (H : Hp) (E : XK) (hr : Room 1 (A.deeper (envOfC "root" (defScope s_root) s.heap.objs.size f cdv))) : PDSs (bodyX P w K mg base N_root "root" s_root f cdv A outer s H E) (defBody s_root) (t_root c_whole_root) :=
  (pdss_cons (pds_if (ptd_cmp op_lt lk_int cInt_mo (pd_ix ix_tl lk_ix gIx_mo (dv 0) pd_int) pd_int (nomark _)) (pdss_one (pds_ret pd_non)) pdss_nil)
    (pdss_cons (pds_set (i := 1) sc_root.nd (pd_call h_whole_root (hr.mono (by decide)) rfl (pda_cons (pd_ix ix_tl lk_ix gIx_mo (dv 0) pd_int) pda_nil)))
    (pdss_cons (pds_set (i := 2) sc_root.nd (pd_call h_whole_root (hr.mono (by decide)) rfl (pda_cons (pd_ix ix_tl lk_ix gIx_mo (dv 0) pd_int) pda_nil)))
    (pdss_cons (pds_if (PDW.pt (pdw_and (ptd_cmp (op_eqA hr.units) lk_eq cEq_mo (pd_op op_mulW lk_mul gMul_mo (dv 1) (dv 1)) (pd_ix ix_tl lk_ix gIx_mo (dv 0) pd_int) (nomark _)) (pdw_and1 (ptd_cmp (op_eqA hr.units) lk_eq cEq_mo (pd_op op_mulW lk_mul gMul_mo (dv 2) (dv 2)) (pd_ix ix_tl lk_ix gIx_mo (dv 0) pd_int) (nomark _))))) (pdss_one (pds_ret (pd_tup (pda_cons (dv 1) (pda_cons (dv 2) pda_nil))))) pdss_nil)
    (pdss_one (pds_ret pd_non))))))
abbrev N_share : List Str := [("p" : Str), ("q" : Str), ("t" : Str), ("x" : Str), ("y" : Str)]
abbrev P_share : List Str := [("p" : Str), ("q" : Str), ("t" : Str)]
theorem sc_share : FnScope N_share P_share (defScope s_share) := ⟨rfl, rfl, rfl, by decide +kernel, rfl, by decide +kernel, by decide +kernel⟩
theorem der_share {c_plus : Ct} {c_times : Ct} {c_minus : Ct} (h_plus : Has P w K mg base 3 "plus" 2 c_plus) (h_times : Has P w K mg base 3 "times" 2 c_times) (h_minus : Has P w K mg base 3 "minus" 2 c_minus) (f : Addr) (cdv : Value) (A : Around) (outer : List Env) (s : Shared) (H : Hp) (E : XK) (hr : Room 3 (A.deeper (envOfC "share" (defScope s_share) s.heap.objs.size f cdv))) : PDSs (bodyX P w K mg base N_share "share" s_share f cdv A outer s H E) (defBody s_share) (t_share c_plus c_times c_minus) :=
  (pdss_cons (pds_set (i := 3) sc_share.nd (pd_call h_plus (hr.mono (by decide)) rfl (pda_cons (pd_ix ix_tl lk_ix gIx_mo (dv 0) pd_int) (pda_cons (pd_call h_times (hr.mono (by decide)) rfl (pda_cons (dv 2) (pda_cons (pd_call h_minus (hr.mono (by decide)) rfl (pda_cons (pd_ix ix_tl lk_ix gIx_mo (dv 1) pd_int) (pda_cons (pd_ix ix_tl lk_ix gIx_mo (dv 0) pd_int) pda_nil))) pda_nil))) pda_nil))))
    (pdss_cons (pds_set (i := 4) sc_share.nd (pd_call h_plus (hr.mono (by decide)) rfl (pda_cons (pd_ix ix_tl lk_ix gIx_mo (dv 0) pd_int) (pda_cons (pd_call h_times (hr.mono (by decide)) rfl (pda_cons (dv 2) (pda_cons (pd_call h_minus (hr.mono (by decide)) rfl (pda_cons (pd_ix ix_tl lk_ix gIx_mo (dv 1) pd_int) (pda_cons (pd_ix ix_tl lk_ix gIx_mo (dv 0) pd_int) pda_nil))) pda_nil))) pda_nil))))
    (pdss_one (pds_ret (pd_tup (pda_cons (dv 3) (pda_cons (dv 4) pda_nil)))))))
abbrev N_middle : List Str := [("p" : Str), ("q" : Str)]
abbrev P_middle : List Str := [("p" : Str), ("q" : Str)]
theorem sc_middle : FnScope N_middle P_middle (defScope s_middle) := ⟨rfl, rfl, rfl, by decide +kernel, rfl, by decide +kernel, by decide +kernel⟩
theorem der_middle {c_share : Ct} (h_share : Has P w K mg base 4 "share" 3 c_share) (f : Addr) (cdv : Value) (A : Around) (outer : List Env) (s : Shared) (H : Hp) (E : XK) (hr : Room 4 (A.deeper (envOfC "middle" (defScope s_middle) s.heap.objs.size f cdv))) : PDSs (bodyX P w K mg base N_middle "middle" s_middle f cdv A outer s H E) (defBody s_middle) (t_middle c_share) :=
  (pdss_one (pds_ret (pd_call h_share (hr.mono (by decide)) rfl (pda_cons (dv 0) (pda_cons (dv 1) (pda_cons (pd_tup (pda_cons pd_int (pda_cons pd_int pda_nil))) pda_nil))))))
abbrev N_beyond : List Str := [("p" : Str), ("q" : Str)]
abbrev P_beyond : List Str := [("p" : Str), ("q" : Str)]
theorem sc_beyond : FnScope N_beyond P_beyond (defScope s_beyond) := ⟨rfl, rfl, rfl, by decide +kernel, rfl, by decide +kernel, by decide +kernel⟩
theorem der_beyond {c_share : Ct} (h_share : Has P w K mg base 4 "share" 3 c_share) (f : Addr) (cdv : Value) (A : Around) (outer : List Env) (s : Shared) (H : Hp) (E : XK) (hr : Room 4 (A.deeper (envOfC "beyond" (defScope s_beyond) s.heap.objs.size f cdv))) : PDSs (bodyX P w K mg base N_beyond "beyond" s_beyond f cdv A outer s H E) (defBody s_beyond) (t_beyond c_share) :=
  (pdss_one (pds_ret (pd_call h_share (hr.mono (by decide)) rfl (pda_cons (dv 0) (pda_cons (dv 1) (pda_cons (pd_tup (pda_cons pd_int (pda_cons pd_int pda_nil))) pda_nil))))))
abbrev N_turned : List Str := [("p" : Str), ("q" : Str), ("x" : Str), ("y" : Str)]
abbrev P_turned : List Str := [("p" : Str), ("q" : Str)]
theorem sc_turned : FnScope N_turned P_turned (defScope s_turned) := ⟨rfl, rfl, rfl, by decide +kernel, rfl, by decide +kernel, by decide +kernel⟩
theorem der_turned {c_plus : Ct} {c_minus : Ct} (h_plus : Has P w K mg base 3 "plus" 2 c_plus) (h_minus : Has P w K mg base 3 "minus" 2 c_minus) (f : Addr) (cdv : Value) (A : Around) (outer : List Env) (s : Shared) (H : Hp) (E : XK) (hr : Room 3 (A.deeper (envOfC "turned" (defScope s_turned) s.heap.objs.size f cdv))) : PDSs (bodyX P w K mg base N_turned "turned" s_turned f cdv A outer s H E) (defBody s_turned) (t_turned c_plus c_minus) :=
  (pdss_cons (pds_set (i := 2) sc_turned.nd (pd_call h_minus (hr.mono (by decide)) rfl (pda_cons (pd_ix ix_tl lk_ix gIx_mo (dv 0) pd_int) (pda_cons (pd_ix ix_tl lk_ix gIx_mo (dv 1) pd_int) pda_nil))))
    (pdss_cons (pds_set (i := 3) sc_turned.nd (pd_call h_minus (hr.mono (by decide)) rfl (pda_cons (pd_ix ix_tl lk_ix gIx_mo (dv 0) pd_int) (pda_cons (pd_ix ix_tl lk_ix gIx_mo (dv 1) pd_int) pda_nil))))
    (pdss_one (pds_ret (pd_tup (pda_cons (pd_call h_minus (hr.mono (by decide)) rfl (pda_cons (pd_ix ix_tl lk_ix gIx_mo (dv 1) pd_int) (pda_cons (dv 3) pda_nil))) (pda_cons (pd_call h_plus (hr.mono (by decide)) rfl (pda_cons (pd_ix ix_tl lk_ix gIx_mo (dv 1) pd_int) (pda_cons (dv 2) pda_nil))) pda_nil)))))))
abbrev N_one_form : List Str := [("a" : Str), ("b" : Str), ("c" : Str), ("size" : Str)]
abbrev P_one_form : List Str := [("a" : Str), ("b" : Str), ("c" : Str)]
theorem sc_one_form : FnScope N_one_form P_one_form (defScope s_one_form) := ⟨rfl, rfl, rfl, by decide +kernel, rfl, by decide +kernel, by decide +kernel⟩
theorem der_one_form {c_divisor : Ct} (h_divisor : Has P w K mg base 1 "divisor" 2 c_divisor) (f : Addr) (cdv : Value) (A : Around) (outer : List Env) (s : Shared) (H : Hp) (E : XK) (hr : Room 1 (A.deeper (envOfC "one_form" (defScope s_one_form) s.heap.objs.size f cdv))) : PDSs (bodyX P w K mg base N_one_form "one_form" s_one_form f cdv A outer s H E) (defBody s_one_form) (t_one_form c_divisor) :=
  (pdss_cons (pds_set (i := 3) sc_one_form.nd (pd_call h_divisor (hr.mono (by decide)) rfl (pda_cons (pd_call h_divisor (hr.mono (by decide)) rfl (pda_cons (dv 0) (pda_cons (dv 1) pda_nil))) (pda_cons (dv 2) pda_nil))))
    (pdss_cons (pds_if (PDW.pt (pdw_or (ptd_cmp op_lt lk_int cInt_mo (dv 0) pd_int (nomark _)) (pdw_or1 (PDW.pt (pdw_and (ptd_cmp (op_eqA hr.units) lk_eq cEq_mo (dv 0) pd_int (nomark _)) (pdw_and1 (ptd_cmp op_lt lk_int cInt_mo (dv 1) pd_int (nomark _)))))))) (pdss_one (pds_set (i := 3) sc_one_form.nd (pd_un un_neg lk_neg gNeg_mo (dv 3)))) pdss_nil)
    (pdss_one (pds_ret (pd_tup (pda_cons (pd_op op_fdivX lk_fdiv gFdiv_mo (dv 0) (dv 3)) (pda_cons (pd_op op_fdivX lk_fdiv gFdiv_mo (dv 1) (dv 3)) (pda_cons (pd_op op_fdivX lk_fdiv gFdiv_mo (dv 2) (dv 3)) pda_nil))))))))
abbrev N_over_one : List Str := [("p" : Str)]
abbrev P_over_one : List Str := [("p" : Str)]
theorem sc_over_one : FnScope N_over_one P_over_one (defScope s_over_one) := ⟨rfl, rfl, rfl, by decide +kernel, rfl, by decide +kernel, by decide +kernel⟩
theorem der_over_one  (f : Addr) (cdv : Value) (A : Around) (outer : List Env) (s : Shared) (H : Hp) (E : XK) (hr : Room 0 (A.deeper (envOfC "over_one" (defScope s_over_one) s.heap.objs.size f cdv))) : PDSs (bodyX P w K mg base N_over_one "over_one" s_over_one f cdv A outer s H E) (defBody s_over_one) (t_over_one) :=
  (pdss_one (pds_ret (pd_tup (pda_cons (pd_op op_mulW lk_mul gMul_mo (pd_ix ix_tl lk_ix gIx_mo (pd_ix ix_tl lk_ix gIx_mo (dv 0) pd_int) pd_int) (pd_ix ix_tl lk_ix gIx_mo (pd_ix ix_tl lk_ix gIx_mo (dv 0) pd_int) pd_int)) (pda_cons (pd_op op_mulW lk_mul gMul_mo (pd_ix ix_tl lk_ix gIx_mo (pd_ix ix_tl lk_ix gIx_mo (dv 0) pd_int) pd_int) (pd_ix ix_tl lk_ix gIx_mo (pd_ix ix_tl lk_ix gIx_mo (dv 0) pd_int) pd_int)) (pda_cons (pd_op op_mulW lk_mul gMul_mo (pd_ix ix_tl lk_ix gIx_mo (pd_ix ix_tl lk_ix gIx_mo (dv 0) pd_int) pd_int) (pd_ix ix_tl lk_ix gIx_mo (pd_ix ix_tl lk_ix gIx_mo (dv 0) pd_int) pd_int)) pda_nil))))))
abbrev N_through : List Str := [("p" : Str), ("q" : Str), ("x" : Str), ("y" : Str), ("w" : Str), ("u" : Str), ("v" : Str), ("z" : Str)]
abbrev P_through : List Str := [("p" : Str), ("q" : Str)]
theorem sc_through : FnScope N_through P_through (defScope s_through) := ⟨rfl, rfl, rfl, by decide +kernel, rfl, by decide +kernel, by decide +kernel⟩
theorem der_through {c_one_form : Ct} {c_over_one : Ct} (h_one_form : Has P w K mg base 2 "one_form" 3 c_one_form) (h_over_one : Has P w K mg base 1 "over_one" 1 c_over_one) (f : Addr) (cdv : Value) (A : Around) (outer : List Env) (s : Shared) (H : Hp) (E : XK) (hr : Room 2 (A.deeper (envOfC "through" (defScope s_through) s.heap.objs.size f cdv))) : PDSs (bodyX P w K mg base N_through "through" s_through f cdv A outer s H E) (defBody s_through) (t_through c_one_form c_over_one) :=
  (pdss_cons (pds_if (ptd_cmp (op_eqA hr.units) lk_eq cEq_mo (dv 0) (dv 1) (nomark _)) (pdss_one (pds_ret pd_non)) pdss_nil)
    (pdss_cons (pds_unp (is := [2, 3, 4]) rfl (pgs_cons (pg_name (i := 2) sc_through.nd rfl (Or.inl rfl)) (pgs_cons (pg_name (i := 3) sc_through.nd rfl (Or.inl rfl)) (pgs_cons (pg_name (i := 4) sc_through.nd rfl (Or.inl rfl)) pgs_nil))) (pd_call h_over_one (hr.mono (by decide)) rfl (pda_cons (dv 0) pda_nil)))
    (pdss_cons (pds_unp (is := [5, 6, 7]) rfl (pgs_cons (pg_name (i := 5) sc_through.nd rfl (Or.inl rfl)) (pgs_cons (pg_name (i := 6) sc_through.nd rfl (Or.inl rfl)) (pgs_cons (pg_name (i := 7) sc_through.nd rfl (Or.inl rfl)) pgs_nil))) (pd_call h_over_one (hr.mono (by decide)) rfl (pda_cons (dv 1) pda_nil)))
    (pdss_one (pds_ret (pd_call h_one_form (hr.mono (by decide)) rfl (pda_cons (pd_op op_sub lk_sub gSub_mo (pd_op op_mulW lk_mul gMul_mo (dv 3) (dv 7)) (pd_op op_mulW lk_mul gMul_mo (dv 6) (dv 4))) (pda_cons (pd_op op_sub lk_sub gSub_mo (pd_op op_mulW lk_mul gMul_mo (dv 4) (dv 5)) (pd_op op_mulW lk_mul gMul_mo (dv 7) (dv 2))) (pda_cons (pd_op op_sub lk_sub gSub_mo (pd_op op_mulW lk_mul gMul_mo (dv 3) (dv 5)) (pd_op op_mulW lk_mul gMul_mo (dv 2) (dv 6))) pda_nil)))))))))
abbrev N_along : List Str := [("p" : Str), ("line" : Str), ("x" : Str), ("y" : Str), ("w" : Str)]
abbrev P_along : List Str := [("p" : Str), ("line" : Str)]
theorem sc_along : FnScope N_along P_along (defScope s_along) := ⟨rfl, rfl, rfl, by decide +kernel, rfl, by decide +kernel, by decide +kernel⟩
theorem der_along {c_one_form : Ct} {c_over_one : Ct} (h_one_form : Has P w K mg base 2 "one_form" 3 c_one_form) (h_over_one : Has P w K mg base 1 "over_one" 1 c_over_one) (f : Addr) (cdv : Value) (A : Around) (outer : List Env) (s : Shared) (H : Hp) (E : XK) (hr : Room 2 (A.deeper (envOfC "along" (defScope s_along) s.heap.objs.size f cdv))) : PDSs (bodyX P w K mg base N_along "along" s_along f cdv A outer s H E) (defBody s_along) (t_along c_one_form c_over_one) :=
  (pdss_cons (pds_unp (is := [2, 3, 4]) rfl (pgs_cons (pg_name (i := 2) sc_along.nd rfl (Or.inl rfl)) (pgs_cons (pg_name (i := 3) sc_along.nd rfl (Or.inl rfl)) (pgs_cons (pg_name (i := 4) sc_along.nd rfl (Or.inl rfl)) pgs_nil))) (pd_call h_over_one (hr.mono (by decide)) rfl (pda_cons (dv 0) pda_nil)))
    (pdss_one (pds_ret (pd_call h_one_form (hr.mono (by decide)) rfl (pda_cons (pd_op op_mulW lk_mul gMul_mo (pd_ix ix_tl lk_ix gIx_mo (dv 1) pd_int) (dv 4)) (pda_cons (pd_op op_mulW lk_mul gMul_mo (pd_ix ix_tl lk_ix gIx_mo (dv 1) pd_int) (dv 4)) (pda_cons (pd_op op_add lk_add gAdd_mo (pd_op op_mulW lk_mul gMul_mo (pd_ix ix_tl lk_ix gIx_mo (dv 1) pd_int) (dv 2)) (pd_op op_mulW lk_mul gMul_mo (pd_ix ix_tl lk_ix gIx_mo (dv 1) pd_int) (dv 3))) pda_nil)))))))
abbrev N_upright : List Str := [("p" : Str), ("line" : Str), ("x" : Str), ("y" : Str), ("w" : Str)]
abbrev P_upright : List Str := [("p" : Str), ("line" : Str)]
theorem sc_upright : FnScope N_upright P_upright (defScope s_upright) := ⟨rfl, rfl, rfl, by decide +kernel, rfl, by decide +kernel, by decide +kernel⟩
theorem der_upright {c_one_form : Ct} {c_over_one : Ct} (h_one_form : Has P w K mg base 2 "one_form" 3 c_one_form) (h_over_one : Has P w K mg base 1 "over_one" 1 c_over_one) (f : Addr) (cdv : Value) (A : Around) (outer : List Env) (s : Shared) (H : Hp) (E : XK) (hr : Room 2 (A.deeper (envOfC "upright" (defScope s_upright) s.heap.objs.size f cdv))) : PDSs (bodyX P w K mg base N_upright "upright" s_upright f cdv A outer s H E) (defBody s_upright) (t_upright c_one_form c_over_one) :=
  (pdss_cons (pds_unp (is := [2, 3, 4]) rfl (pgs_cons (pg_name (i := 2) sc_upright.nd rfl (Or.inl rfl)) (pgs_cons (pg_name (i := 3) sc_upright.nd rfl (Or.inl rfl)) (pgs_cons (pg_name (i := 4) sc_upright.nd rfl (Or.inl rfl)) pgs_nil))) (pd_call h_over_one (hr.mono (by decide)) rfl (pda_cons (dv 0) pda_nil)))
    (pdss_one (pds_ret (pd_call h_one_form (hr.mono (by decide)) rfl (pda_cons (pd_op op_mulW lk_mul gMul_mo (pd_ix ix_tl lk_ix gIx_mo (dv 1) pd_int) (dv 4)) (pda_cons (pd_op op_mulW lk_mul gMul_mo (pd_un un_neg lk_neg gNeg_mo (pd_ix ix_tl lk_ix gIx_mo (dv 1) pd_int)) (dv 4)) (pda_cons (pd_op op_sub lk_sub gSub_mo (pd_op op_mulW lk_mul gMul_mo (pd_ix ix_tl lk_ix gIx_mo (dv 1) pd_int) (dv 2)) (pd_op op_mulW lk_mul gMul_mo (pd_ix ix_tl lk_ix gIx_mo (dv 1) pd_int) (dv 3))) pda_nil)))))))
abbrev N_meet : List Str := [("first" : Str), ("other" : Str), ("size" : Str), ("a" : Str), ("b" : Str), ("c" : Str), ("d" : Str), ("e" : Str), ("f" : Str)]
abbrev P_meet : List Str := [("first" : Str), ("other" : Str)]
theorem sc_meet : FnScope N_meet P_meet (defScope s_meet) := ⟨rfl, rfl, rfl, by decide +kernel, rfl, by decide +kernel, by decide +kernel⟩
theorem der_meet {c_fraction : Ct} (h_fraction : Has P w K mg base 2 "fraction" 2 c_fraction) (f : Addr) (cdv : Value) (A : Around) (outer : List Env) (s : Shared) (H : Hp) (E : XK) (hr : Room 2 (A.deeper (envOfC "meet" (defScope s_meet) s.heap.objs.size f cdv))) : PDSs (bodyX P w K mg base N_meet "meet" s_meet f cdv A outer s H E) (defBody s_meet) (t_meet c_fraction) :=
  (pdss_cons (pds_unp (is := [3, 4, 5]) rfl (pgs_cons (pg_name (i := 3) sc_meet.nd rfl (Or.inl rfl)) (pgs_cons (pg_name (i := 4) sc_meet.nd rfl (Or.inl rfl)) (pgs_cons (pg_name (i := 5) sc_meet.nd rfl (Or.inl rfl)) pgs_nil))) (dv 0))
    (pdss_cons (pds_unp (is := [6, 7, 8]) rfl (pgs_cons (pg_name (i := 6) sc_meet.nd rfl (Or.inl rfl)) (pgs_cons (pg_name (i := 7) sc_meet.nd rfl (Or.inl rfl)) (pgs_cons (pg_name (i := 8) sc_meet.nd rfl (Or.inl rfl)) pgs_nil))) (dv 1))
    (pdss_cons (pds_set (i := 2) sc_meet.nd (pd_op op_sub lk_sub gSub_mo (pd_op op_mulW lk_mul gMul_mo (dv 3) (dv 7)) (pd_op op_mulW lk_mul gMul_mo (dv 4) (dv 6))))
    (pdss_cons (pds_if (ptd_cmp (op_eqA hr.units) lk_eq cEq_mo (dv 2) pd_int (nomark _)) (pdss_one (pds_ret pd_non)) pdss_nil)
    (pdss_one (pds_ret (pd_tup (pda_cons (pd_call h_fraction (hr.mono (by decide)) rfl (pda_cons (pd_op op_sub lk_sub gSub_mo (pd_op op_mulW lk_mul gMul_mo (dv 5) (dv 7)) (pd_op op_mulW lk_mul gMul_mo (dv 4) (dv 8))) (pda_cons (dv 2) pda_nil))) (pda_cons (pd_call h_fraction (hr.mono (by decide)) rfl (pda_cons (pd_op op_sub lk_sub gSub_mo (pd_op op_mulW lk_mul gMul_mo (dv 3) (dv 8)) (pd_op op_mulW lk_mul gMul_mo (dv 5) (dv 6))) (pda_cons (dv 2) pda_nil))) pda_nil)))))))))
abbrev N_foot : List Str := [("p" : Str), ("line" : Str)]
abbrev P_foot : List Str := [("p" : Str), ("line" : Str)]
theorem sc_foot : FnScope N_foot P_foot (defScope s_foot) := ⟨rfl, rfl, rfl, by decide +kernel, rfl, by decide +kernel, by decide +kernel⟩
theorem der_foot {c_meet : Ct} {c_upright : Ct} (h_meet : Has P w K mg base 3 "meet" 2 c_meet) (h_upright : Has P w K mg base 3 "upright" 2 c_upright) (f : Addr) (cdv : Value) (A : Around) (outer : List Env) (s : Shared) (H : Hp) (E : XK) (hr : Room 3 (A.deeper (envOfC "foot" (defScope s_foot) s.heap.objs.size f cdv))) : PDSs (bodyX P w K mg base N_foot "foot" s_foot f cdv A outer s H E) (defBody s_foot) (t_foot c_meet c_upright) :=
  (pdss_one (pds_ret (pd_call h_meet (hr.mono (by decide)) rfl (pda_cons (dv 1) (pda_cons (pd_call h_upright (hr.mono (by decide)) rfl (pda_cons (dv 0) (pda_cons (dv 1) pda_nil))) pda_nil)))))
abbrev N_mirror : List Str := [("p" : Str), ("line" : Str)]
abbrev P_mirror : List Str := [("p" : Str), ("line" : Str)]
theorem sc_mirror : FnScope N_mirror P_mirror (defScope s_mirror) := ⟨rfl, rfl, rfl, by decide +kernel, rfl, by decide +kernel, by decide +kernel⟩
theorem der_mirror {c_beyond : Ct} {c_foot : Ct} (h_beyond : Has P w K mg base 5 "beyond" 2 c_beyond) (h_foot : Has P w K mg base 4 "foot" 2 c_foot) (f : Addr) (cdv : Value) (A : Around) (outer : List Env) (s : Shared) (H : Hp) (E : XK) (hr : Room 5 (A.deeper (envOfC "mirror" (defScope s_mirror) s.heap.objs.size f cdv))) : PDSs (bodyX P w K mg base N_mirror "mirror" s_mirror f cdv A outer s H E) (defBody s_mirror) (t_mirror c_beyond c_foot) :=
  (pdss_one (pds_ret (pd_call h_beyond (hr.mono (by decide)) rfl (pda_cons (dv 0) (pda_cons (pd_call h_foot (hr.mono (by decide)) rfl (pda_cons (dv 0) (pda_cons (dv 1) pda_nil))) pda_nil)))))
abbrev N_square_between : List Str := [("p" : Str), ("q" : Str), ("x" : Str), ("y" : Str)]
abbrev P_square_between : List Str := [("p" : Str), ("q" : Str)]
theorem sc_square_between : FnScope N_square_between P_square_between (defScope s_square_between) := ⟨rfl, rfl, rfl, by decide +kernel, rfl, by decide +kernel, by decide +kernel⟩
theorem der_square_between {c_plus : Ct} {c_times : Ct} {c_minus : Ct} (h_plus : Has P w K mg base 3 "plus" 2 c_plus) (h_times : Has P w K mg base 3 "times" 2 c_times) (h_minus : Has P w K mg base 3 "minus" 2 c_minus) (f : Addr) (cdv : Value) (A : Around) (outer : List Env) (s : Shared) (H : Hp) (E : XK) (hr : Room 3 (A.deeper (envOfC "square_between" (defScope s_square_between) s.heap.objs.size f cdv))) : PDSs (bodyX P w K mg base N_square_between "square_between" s_square_between f cdv A outer s H E) (defBody s_square_between) (t_square_between c_plus c_times c_minus) :=
  (pdss_cons (pds_set (i := 2) sc_square_between.nd (pd_call h_minus (hr.mono (by decide)) rfl (pda_cons (pd_ix ix_tl lk_ix gIx_mo (dv 0) pd_int) (pda_cons (pd_ix ix_tl lk_ix gIx_mo (dv 1) pd_int) pda_nil))))
    (pdss_cons (pds_set (i := 3) sc_square_between.nd (pd_call h_minus (hr.mono (by decide)) rfl (pda_cons (pd_ix ix_tl lk_ix gIx_mo (dv 0) pd_int) (pda_cons (pd_ix ix_tl lk_ix gIx_mo (dv 1) pd_int) pda_nil))))
    (pdss_one (pds_ret (pd_call h_plus (hr.mono (by decide)) rfl (pda_cons (pd_call h_times (hr.mono (by decide)) rfl (pda_cons (dv 2) (pda_cons (dv 2) pda_nil))) (pda_cons (pd_call h_times (hr.mono (by decide)) rfl (pda_cons (dv 3) (pda_cons (dv 3) pda_nil))) pda_nil)))))))
abbrev N_about : List Str := [("p" : Str), ("q" : Str)]
abbrev P_about : List Str := [("p" : Str), ("q" : Str)]
theorem sc_about : FnScope N_about P_about (defScope s_about) := ⟨rfl, rfl, rfl, by decide +kernel, rfl, by decide +kernel, by decide +kernel⟩
theorem der_about {c_square_between : Ct} (h_square_between : Has P w K mg base 4 "square_between" 2 c_square_between) (f : Addr) (cdv : Value) (A : Around) (outer : List Env) (s : Shared) (H : Hp) (E : XK) (hr : Room 4 (A.deeper (envOfC "about" (defScope s_about) s.heap.objs.size f cdv))) : PDSs (bodyX P w K mg base N_about "about" s_about f cdv A outer s H E) (defBody s_about) (t_about c_square_between) :=
  (pdss_cons (pds_if (ptd_cmp (op_eqA hr.units) lk_eq cEq_mo (dv 0) (dv 1) (nomark _)) (pdss_one (pds_ret pd_non)) pdss_nil)
    (pdss_one (pds_ret (pd_tup (pda_cons (pd_ix ix_tl lk_ix gIx_mo (dv 0) pd_int) (pda_cons (pd_ix ix_tl lk_ix gIx_mo (dv 0) pd_int) (pda_cons (pd_call h_square_between (hr.mono (by decide)) rfl (pda_cons (dv 0) (pda_cons (dv 1) pda_nil))) pda_nil)))))))
abbrev N_ahead : List Str := [("p" : Str), ("q" : Str)]
abbrev P_ahead : List Str := [("p" : Str), ("q" : Str)]
theorem sc_ahead : FnScope N_ahead P_ahead (defScope s_ahead) := ⟨rfl, rfl, rfl, by decide +kernel, rfl, by decide +kernel, by decide +kernel⟩
theorem der_ahead {c_less : Ct} (h_less : Has P w K mg base 1 "less" 2 c_less) (f : Addr) (cdv : Value) (A : Around) (outer : List Env) (s : Shared) (H : Hp) (E : XK) (hr : Room 1 (A.deeper (envOfC "ahead" (defScope s_ahead) s.heap.objs.size f cdv))) : PDSs (bodyX P w K mg base N_ahead "ahead" s_ahead f cdv A outer s H E) (defBody s_ahead) (t_ahead c_less) :=
  (pdss_cons (pds_if (ptd_cmp (op_eqA hr.units) lk_eq cEq_mo (pd_ix ix_tl lk_ix gIx_mo (dv 0) pd_int) (pd_ix ix_tl lk_ix gIx_mo (dv 1) pd_int) (nomark _)) (pdss_one (pds_ret (pd_call h_less (hr.mono (by decide)) rfl (pda_cons (pd_ix ix_tl lk_ix gIx_mo (dv 0) pd_int) (pda_cons (pd_ix ix_tl lk_ix gIx_mo (dv 1) pd_int) pda_nil))))) pdss_nil)
    (pdss_one (pds_ret (pd_call h_less (hr.mono (by decide)) rfl (pda_cons (pd_ix ix_tl lk_ix gIx_mo (dv 0) pd_int) (pda_cons (pd_ix ix_tl lk_ix gIx_mo (dv 1) pd_int) pda_nil))))))
abbrev N_line_cuts : List Str := [("line" : Str), ("ring" : Str), ("a" : Str), ("b" : Str), ("e" : Str), ("n" : Str), ("d" : Str), ("r" : Str), ("x" : Str), ("y" : Str), ("right" : Str), ("down" : Str), ("one" : Str), ("two" : Str)]
abbrev P_line_cuts : List Str := [("line" : Str), ("ring" : Str)]
theorem sc_line_cuts : FnScope N_line_cuts P_line_cuts (defScope s_line_cuts) := ⟨rfl, rfl, rfl, by decide +kernel, rfl, by decide +kernel, by decide +kernel⟩
theorem der_line_cuts {c_ahead : Ct} {c_plus : Ct} {c_minus : Ct} {c_over : Ct} {c_times : Ct} {c_root : Ct} {c_less : Ct} (h_ahead : Has P w K mg base 2 "ahead" 2 c_ahead) (h_plus : Has P w K mg base 3 "plus" 2 c_plus) (h_minus : Has P w K mg base 3 "minus" 2 c_minus) (h_over : Has P w K mg base 3 "over" 2 c_over) (h_times : Has P w K mg base 3 "times" 2 c_times) (h_root : Has P w K mg base 2 "root" 1 c_root) (h_less : Has P w K mg base 1 "less" 2 c_less) (f : Addr) (cdv : Value) (A : Around) (outer : List Env) (s : Shared) (H : Hp) (E : XK) (hr : Room 3 (A.deeper (envOfC "line_cuts" (defScope s_line_cuts) s.heap.objs.size f cdv))) : PDSs (bodyX P w K mg base N_line_cuts "line_cuts" s_line_cuts f cdv A outer s H E) (defBody s_line_cuts) (t_line_cuts c_ahead c_plus c_minus c_over c_times c_root c_less) :=
  (pdss_cons (pds_set (i := 2) sc_line_cuts.nd (pd_tup (pda_cons (pd_ix ix_tl lk_ix gIx_mo (dv 0) pd_int) (pda_cons pd_int pda_nil))))
    (pdss_cons (pds_set (i := 3) sc_line_cuts.nd (pd_tup (pda_cons (pd_ix ix_tl lk_ix gIx_mo (dv 0) pd_int) (pda_cons pd_int pda_nil))))
    (pdss_cons (pds_set (i := 4) sc_line_cuts.nd (pd_call h_minus (hr.mono (by decide)) rfl (pda_cons (pd_tup (pda_cons (pd_ix ix_tl lk_ix gIx_mo (dv 0) pd_int) (pda_cons pd_int pda_nil))) (pda_cons (pd_call h_plus (hr.mono (by decide)) rfl (pda_cons (pd_call h_times (hr.mono (by decide)) rfl (pda_cons (dv 2) (pda_cons (pd_ix ix_tl lk_ix gIx_mo (dv 1) pd_int) pda_nil))) (pda_cons (pd_call h_times (hr.mono (by decide)) rfl (pda_cons (dv 3) (pda_cons (pd_ix ix_tl lk_ix gIx_mo (dv 1) pd_int) pda_nil))) pda_nil))) pda_nil))))
    (pdss_cons (pds_set (i := 5) sc_line_cuts.nd (pd_tup (pda_cons (pd_op op_add lk_add gAdd_mo (pd_op op_mulW lk_mul gMul_mo (pd_ix ix_tl lk_ix gIx_mo (dv 0) pd_int) (pd_ix ix_tl lk_ix gIx_mo (dv 0) pd_int)) (pd_op op_mulW lk_mul gMul_mo (pd_ix ix_tl lk_ix gIx_mo (dv 0) pd_int) (pd_ix ix_tl lk_ix gIx_mo (dv 0) pd_int))) (pda_cons pd_int pda_nil))))
    (pdss_cons (pds_set (i := 6) sc_line_cuts.nd (pd_call h_minus (hr.mono (by decide)) rfl (pda_cons (pd_call h_times (hr.mono (by decide)) rfl (pda_cons (pd_ix ix_tl lk_ix gIx_mo (dv 1) pd_int) (pda_cons (dv 5) pda_nil))) (pda_cons (pd_call h_times (hr.mono (by decide)) rfl (pda_cons (dv 4) (pda_cons (dv 4) pda_nil))) pda_nil))))
    (pdss_cons (pds_if (ptd_val (pd_call h_less (hr.mono (by decide)) rfl (pda_cons (dv 6) (pda_cons (pd_tup (pda_cons pd_int (pda_cons pd_int pda_nil))) pda_nil)))) (pdss_one (pds_ret (pd_tup (pda_cons pd_str (pda_cons (pd_lst pda_nil) pda_nil))))) pdss_nil)
    (pdss_cons (pds_set (i := 7) sc_line_cuts.nd (pd_call h_root (hr.mono (by decide)) rfl (pda_cons (dv 6) pda_nil)))
    (pdss_cons (pds_if (ptd_cmp op_isN' lk_isN cIsN_mo (dv 7) pd_non (nomark _)) (pdss_one (pds_ret (pd_tup (pda_cons pd_str (pda_cons (pd_lst pda_nil) pda_nil))))) pdss_nil)
    (pdss_cons (pds_set (i := 8) sc_line_cuts.nd (pd_call h_plus (hr.mono (by decide)) rfl (pda_cons (pd_ix ix_tl lk_ix gIx_mo (dv 1) pd_int) (pda_cons (pd_call h_over (hr.mono (by decide)) rfl (pda_cons (pd_call h_times (hr.mono (by decide)) rfl (pda_cons (dv 2) (pda_cons (dv 4) pda_nil))) (pda_cons (dv 5) pda_nil))) pda_nil))))
    (pdss_cons (pds_set (i := 9) sc_line_cuts.nd (pd_call h_plus (hr.mono (by decide)) rfl (pda_cons (pd_ix ix_tl lk_ix gIx_mo (dv 1) pd_int) (pda_cons (pd_call h_over (hr.mono (by decide)) rfl (pda_cons (pd_call h_times (hr.mono (by decide)) rfl (pda_cons (dv 3) (pda_cons (dv 4) pda_nil))) (pda_cons (dv 5) pda_nil))) pda_nil))))
    (pdss_cons (pds_set (i := 10) sc_line_cuts.nd (pd_call h_over (hr.mono (by decide)) rfl (pda_cons (pd_call h_times (hr.mono (by decide)) rfl (pda_cons (dv 7) (pda_cons (dv 3) pda_nil))) (pda_cons (dv 5) pda_nil))))
    (pdss_cons (pds_set (i := 11) sc_line_cuts.nd (pd_call h_over (hr.mono (by decide)) rfl (pda_cons (pd_call h_times (hr.mono (by decide)) rfl (pda_cons (dv 7) (pda_cons (dv 2) pda_nil))) (pda_cons (dv 5) pda_nil))))
    (pdss_cons (pds_set (i := 12) sc_line_cuts.nd (pd_tup (pda_cons (pd_call h_plus (hr.mono (by decide)) rfl (pda_cons (dv 8) (pda_cons (dv 10) pda_nil))) (pda_cons (pd_call h_minus (hr.mono (by decide)) rfl (pda_cons (dv 9) (pda_cons (dv 11) pda_nil))) pda_nil))))
    (pdss_cons (pds_set (i := 13) sc_line_cuts.nd (pd_tup (pda_cons (pd_call h_minus (hr.mono (by decide)) rfl (pda_cons (dv 8) (pda_cons (dv 10) pda_nil))) (pda_cons (pd_call h_plus (hr.mono (by decide)) rfl (pda_cons (dv 9) (pda_cons (dv 11) pda_nil))) pda_nil))))
    (pdss_cons (pds_if (ptd_val (pd_call h_ahead (hr.mono (by decide)) rfl (pda_cons (dv 13) (pda_cons (dv 12) pda_nil)))) (pdss_one (pds_ret (pd_tup (pda_cons pd_str (pda_cons (pd_lst (pda_cons (dv 13) (pda_cons (dv 12) pda_nil))) pda_nil))))) pdss_nil)
    (pdss_one (pds_ret (pd_tup (pda_cons pd_str (pda_cons (pd_lst (pda_cons (dv 12) (pda_cons (dv 13) pda_nil))) pda_nil))))))))))))))))))))
abbrev N_between_line : List Str := [("one" : Str), ("two" : Str), ("a" : Str), ("b" : Str), ("far" : Str), ("near" : Str), ("c" : Str), ("left" : Str), ("right" : Str)]
abbrev P_between_line : List Str := [("one" : Str), ("two" : Str)]
theorem sc_between_line : FnScope N_between_line P_between_line (defScope s_between_line) := ⟨rfl, rfl, rfl, by decide +kernel, rfl, by decide +kernel, by decide +kernel⟩
theorem der_between_line {c_one_form : Ct} {c_minus : Ct} {c_plus : Ct} {c_times : Ct} (h_one_form : Has P w K mg base 2 "one_form" 3 c_one_form) (h_minus : Has P w K mg base 3 "minus" 2 c_minus) (h_plus : Has P w K mg base 3 "plus" 2 c_plus) (h_times : Has P w K mg base 3 "times" 2 c_times) (f : Addr) (cdv : Value) (A : Around) (outer : List Env) (s : Shared) (H : Hp) (E : XK) (hr : Room 3 (A.deeper (envOfC "between_line" (defScope s_between_line) s.heap.objs.size f cdv))) : PDSs (bodyX P w K mg base N_between_line "between_line" s_between_line f cdv A outer s H E) (defBody s_between_line) (t_between_line c_one_form c_minus c_plus c_times) :=
  (pdss_cons (pds_set (i := 2) sc_between_line.nd (pd_call h_times (hr.mono (by decide)) rfl (pda_cons (pd_tup (pda_cons pd_int (pda_cons pd_int pda_nil))) (pda_cons (pd_call h_minus (hr.mono (by decide)) rfl (pda_cons (pd_ix ix_tl lk_ix gIx_mo (dv 1) pd_int) (pda_cons (pd_ix ix_tl lk_ix gIx_mo (dv 0) pd_int) pda_nil))) pda_nil))))
    (pdss_cons (pds_set (i := 3) sc_between_line.nd (pd_call h_times (hr.mono (by decide)) rfl (pda_cons (pd_tup (pda_cons pd_int (pda_cons pd_int pda_nil))) (pda_cons (pd_call h_minus (hr.mono (by decide)) rfl (pda_cons (pd_ix ix_tl lk_ix gIx_mo (dv 1) pd_int) (pda_cons (pd_ix ix_tl lk_ix gIx_mo (dv 0) pd_int) pda_nil))) pda_nil))))
    (pdss_cons (pds_set (i := 4) sc_between_line.nd (pd_call h_minus (hr.mono (by decide)) rfl (pda_cons (pd_ix ix_tl lk_ix gIx_mo (dv 0) pd_int) (pda_cons (pd_call h_plus (hr.mono (by decide)) rfl (pda_cons (pd_call h_times (hr.mono (by decide)) rfl (pda_cons (pd_ix ix_tl lk_ix gIx_mo (dv 0) pd_int) (pda_cons (pd_ix ix_tl lk_ix gIx_mo (dv 0) pd_int) pda_nil))) (pda_cons (pd_call h_times (hr.mono (by decide)) rfl (pda_cons (pd_ix ix_tl lk_ix gIx_mo (dv 0) pd_int) (pda_cons (pd_ix ix_tl lk_ix gIx_mo (dv 0) pd_int) pda_nil))) pda_nil))) pda_nil))))
    (pdss_cons (pds_set (i := 5) sc_between_line.nd (pd_call h_minus (hr.mono (by decide)) rfl (pda_cons (pd_ix ix_tl lk_ix gIx_mo (dv 1) pd_int) (pda_cons (pd_call h_plus (hr.mono (by decide)) rfl (pda_cons (pd_call h_times (hr.mono (by decide)) rfl (pda_cons (pd_ix ix_tl lk_ix gIx_mo (dv 1) pd_int) (pda_cons (pd_ix ix_tl lk_ix gIx_mo (dv 1) pd_int) pda_nil))) (pda_cons (pd_call h_times (hr.mono (by decide)) rfl (pda_cons (pd_ix ix_tl lk_ix gIx_mo (dv 1) pd_int) (pda_cons (pd_ix ix_tl lk_ix gIx_mo (dv 1) pd_int) pda_nil))) pda_nil))) pda_nil))))
    (pdss_cons (pds_set (i := 6) sc_between_line.nd (pd_call h_minus (hr.mono (by decide)) rfl (pda_cons (dv 4) (pda_cons (dv 5) pda_nil))))
    (pdss_cons (pds_set (i := 7) sc_between_line.nd (pd_op op_mulW lk_mul gMul_mo (pd_op op_mulW lk_mul gMul_mo (pd_ix ix_tl lk_ix gIx_mo (dv 2) pd_int) (pd_ix ix_tl lk_ix gIx_mo (dv 3) pd_int)) (pd_ix ix_tl lk_ix gIx_mo (dv 6) pd_int)))
    (pdss_cons (pds_set (i := 8) sc_between_line.nd (pd_op op_mulW lk_mul gMul_mo (pd_op op_mulW lk_mul gMul_mo (pd_ix ix_tl lk_ix gIx_mo (dv 3) pd_int) (pd_ix ix_tl lk_ix gIx_mo (dv 2) pd_int)) (pd_ix ix_tl lk_ix gIx_mo (dv 6) pd_int)))
    (pdss_one (pds_ret (pd_call h_one_form (hr.mono (by decide)) rfl (pda_cons (dv 7) (pda_cons (dv 8) (pda_cons (pd_op op_mulW lk_mul gMul_mo (pd_op op_mulW lk_mul gMul_mo (pd_ix ix_tl lk_ix gIx_mo (dv 6) pd_int) (pd_ix ix_tl lk_ix gIx_mo (dv 2) pd_int)) (pd_ix ix_tl lk_ix gIx_mo (dv 3) pd_int)) pda_nil)))))))))))))
abbrev N_ring_cuts : List Str := [("ring" : Str), ("other" : Str)]
abbrev P_ring_cuts : List Str := [("ring" : Str), ("other" : Str)]
theorem sc_ring_cuts : FnScope N_ring_cuts P_ring_cuts (defScope s_ring_cuts) := ⟨rfl, rfl, rfl, by decide +kernel, rfl, by decide +kernel, by decide +kernel⟩
theorem der_ring_cuts {c_line_cuts : Ct} {c_between_line : Ct} (h_line_cuts : Has P w K mg base 4 "line_cuts" 2 c_line_cuts) (h_between_line : Has P w K mg base 4 "between_line" 2 c_between_line) (f : Addr) (cdv : Value) (A : Around) (outer : List Env) (s : Shared) (H : Hp) (E : XK) (hr : Room 4 (A.deeper (envOfC "ring_cuts" (defScope s_ring_cuts) s.heap.objs.size f cdv))) : PDSs (bodyX P w K mg base N_ring_cuts "ring_cuts" s_ring_cuts f cdv A outer s H E) (defBody s_ring_cuts) (t_ring_cuts c_line_cuts c_between_line) :=
  (pdss_cons (pds_if (PDW.pt (pdw_and (ptd_cmp (op_eqA hr.units) lk_eq cEq_mo (pd_ix ix_tl lk_ix gIx_mo (dv 0) pd_int) (pd_ix ix_tl lk_ix gIx_mo (dv 1) pd_int) (nomark _)) (pdw_and1 (ptd_cmp (op_eqA hr.units) lk_eq cEq_mo (pd_ix ix_tl lk_ix gIx_mo (dv 0) pd_int) (pd_ix ix_tl lk_ix gIx_mo (dv 1) pd_int) (nomark _))))) (pdss_one (pds_ret (pd_tup (pda_cons pd_str (pda_cons (pd_lst pda_nil) pda_nil))))) pdss_nil)
    (pdss_one (pds_ret (pd_call h_line_cuts (hr.mono (by decide)) rfl (pda_cons (pd_call h_between_line (hr.mono (by decide)) rfl (pda_cons (dv 0) (pda_cons (dv 1) pda_nil))) (pda_cons (dv 0) pda_nil))))))
abbrev N_cross : List Str := [("p" : Str), ("q" : Str), ("r" : Str), ("left" : Str), ("right" : Str)]
abbrev P_cross : List Str := [("p" : Str), ("q" : Str), ("r" : Str)]
theorem sc_cross : FnScope N_cross P_cross (defScope s_cross) := ⟨rfl, rfl, rfl, by decide +kernel, rfl, by decide +kernel, by decide +kernel⟩
theorem der_cross {c_minus : Ct} {c_times : Ct} (h_minus : Has P w K mg base 3 "minus" 2 c_minus) (h_times : Has P w K mg base 3 "times" 2 c_times) (f : Addr) (cdv : Value) (A : Around) (outer : List Env) (s : Shared) (H : Hp) (E : XK) (hr : Room 3 (A.deeper (envOfC "cross" (defScope s_cross) s.heap.objs.size f cdv))) : PDSs (bodyX P w K mg base N_cross "cross" s_cross f cdv A outer s H E) (defBody s_cross) (t_cross c_minus c_times) :=
  (pdss_cons (pds_set (i := 3) sc_cross.nd (pd_call h_times (hr.mono (by decide)) rfl (pda_cons (pd_call h_minus (hr.mono (by decide)) rfl (pda_cons (pd_ix ix_tl lk_ix gIx_mo (dv 0) pd_int) (pda_cons (pd_ix ix_tl lk_ix gIx_mo (dv 2) pd_int) pda_nil))) (pda_cons (pd_call h_minus (hr.mono (by decide)) rfl (pda_cons (pd_ix ix_tl lk_ix gIx_mo (dv 1) pd_int) (pda_cons (pd_ix ix_tl lk_ix gIx_mo (dv 2) pd_int) pda_nil))) pda_nil))))
    (pdss_cons (pds_set (i := 4) sc_cross.nd (pd_call h_times (hr.mono (by decide)) rfl (pda_cons (pd_call h_minus (hr.mono (by decide)) rfl (pda_cons (pd_ix ix_tl lk_ix gIx_mo (dv 0) pd_int) (pda_cons (pd_ix ix_tl lk_ix gIx_mo (dv 2) pd_int) pda_nil))) (pda_cons (pd_call h_minus (hr.mono (by decide)) rfl (pda_cons (pd_ix ix_tl lk_ix gIx_mo (dv 1) pd_int) (pda_cons (pd_ix ix_tl lk_ix gIx_mo (dv 2) pd_int) pda_nil))) pda_nil))))
    (pdss_one (pds_ret (pd_call h_minus (hr.mono (by decide)) rfl (pda_cons (dv 3) (pda_cons (dv 4) pda_nil)))))))
abbrev N_in_line : List Str := [("p" : Str), ("q" : Str), ("r" : Str)]
abbrev P_in_line : List Str := [("p" : Str), ("q" : Str), ("r" : Str)]
theorem sc_in_line : FnScope N_in_line P_in_line (defScope s_in_line) := ⟨rfl, rfl, rfl, by decide +kernel, rfl, by decide +kernel, by decide +kernel⟩
theorem der_in_line {c_cross : Ct} (h_cross : Has P w K mg base 4 "cross" 3 c_cross) (f : Addr) (cdv : Value) (A : Around) (outer : List Env) (s : Shared) (H : Hp) (E : XK) (hr : Room 4 (A.deeper (envOfC "in_line" (defScope s_in_line) s.heap.objs.size f cdv))) : PDSs (bodyX P w K mg base N_in_line "in_line" s_in_line f cdv A outer s H E) (defBody s_in_line) (t_in_line c_cross) :=
  (pdss_one (pds_ret (pd_cmp (op_eqA hr.units) lk_eq cEq_mo (pd_call h_cross (hr.mono (by decide)) rfl (pda_cons (dv 0) (pda_cons (dv 1) (pda_cons (dv 2) pda_nil)))) (pd_tup (pda_cons pd_int (pda_cons pd_int pda_nil))) (nomark _))))
abbrev N_side_by_side : List Str := [("first" : Str), ("other" : Str)]
abbrev P_side_by_side : List Str := [("first" : Str), ("other" : Str)]
theorem sc_side_by_side : FnScope N_side_by_side P_side_by_side (defScope s_side_by_side) := ⟨rfl, rfl, rfl, by decide +kernel, rfl, by decide +kernel, by decide +kernel⟩
theorem der_side_by_side  (f : Addr) (cdv : Value) (A : Around) (outer : List Env) (s : Shared) (H : Hp) (E : XK) (hr : Room 0 (A.deeper (envOfC "side_by_side" (defScope s_side_by_side) s.heap.objs.size f cdv))) : PDSs (bodyX P w K mg base N_side_by_side "side_by_side" s_side_by_side f cdv A outer s H E) (defBody s_side_by_side) (t_side_by_side) :=
  (pdss_one (pds_ret (pd_cmp (op_eqA hr.units) lk_eq cEq_mo (pd_op op_mulW lk_mul gMul_mo (pd_ix ix_tl lk_ix gIx_mo (dv 0) pd_int) (pd_ix ix_tl lk_ix gIx_mo (dv 1) pd_int)) (pd_op op_mulW lk_mul gMul_mo (pd_ix ix_tl lk_ix gIx_mo (dv 0) pd_int) (pd_ix ix_tl lk_ix gIx_mo (dv 1) pd_int)) (nomark _))))
abbrev N_square_on : List Str := [("first" : Str), ("other" : Str)]
abbrev P_square_on : List Str := [("first" : Str), ("other" : Str)]
theorem sc_square_on : FnScope N_square_on P_square_on (defScope s_square_on) := ⟨rfl, rfl, rfl, by decide +kernel, rfl, by decide +kernel, by decide +kernel⟩
theorem der_square_on  (f : Addr) (cdv : Value) (A : Around) (outer : List Env) (s : Shared) (H : Hp) (E : XK) (hr : Room 0 (A.deeper (envOfC "square_on" (defScope s_square_on) s.heap.objs.size f cdv))) : PDSs (bodyX P w K mg base N_square_on "square_on" s_square_on f cdv A outer s H E) (defBody s_square_on) (t_square_on) :=
  (pdss_one (pds_ret (pd_cmp (op_eqA hr.units) lk_eq cEq_mo (pd_op op_add lk_add gAdd_mo (pd_op op_mulW lk_mul gMul_mo (pd_ix ix_tl lk_ix gIx_mo (dv 0) pd_int) (pd_ix ix_tl lk_ix gIx_mo (dv 1) pd_int)) (pd_op op_mulW lk_mul gMul_mo (pd_ix ix_tl lk_ix gIx_mo (dv 0) pd_int) (pd_ix ix_tl lk_ix gIx_mo (dv 1) pd_int))) pd_int (nomark _))))
abbrev N_all_round : List Str := [("p" : Str), ("q" : Str), ("r" : Str), ("s" : Str), ("one" : Str), ("two" : Str), ("three" : Str)]
abbrev P_all_round : List Str := [("p" : Str), ("q" : Str), ("r" : Str), ("s" : Str)]
theorem sc_all_round : FnScope N_all_round P_all_round (defScope s_all_round) := ⟨rfl, rfl, rfl, by decide +kernel, rfl, by decide +kernel, by decide +kernel⟩
theorem der_all_round {c_plus : Ct} {c_times : Ct} {c_cross : Ct} {c_square_between : Ct} (h_plus : Has P w K mg base 3 "plus" 2 c_plus) (h_times : Has P w K mg base 3 "times" 2 c_times) (h_cross : Has P w K mg base 4 "cross" 3 c_cross) (h_square_between : Has P w K mg base 4 "square_between" 2 c_square_between) (f : Addr) (cdv : Value) (A : Around) (outer : List Env) (s : Shared) (H : Hp) (E : XK) (hr : Room 4 (A.deeper (envOfC "all_round" (defScope s_all_round) s.heap.objs.size f cdv))) : PDSs (bodyX P w K mg base N_all_round "all_round" s_all_round f cdv A outer s H E) (defBody s_all_round) (t_all_round c_plus c_times c_cross c_square_between) :=
  (pdss_cons (pds_set (i := 4) sc_all_round.nd (pd_call h_times (hr.mono (by decide)) rfl (pda_cons (pd_call h_square_between (hr.mono (by decide)) rfl (pda_cons (dv 0) (pda_cons (dv 3) pda_nil))) (pda_cons (pd_call h_cross (hr.mono (by decide)) rfl (pda_cons (dv 1) (pda_cons (dv 2) (pda_cons (dv 3) pda_nil)))) pda_nil))))
    (pdss_cons (pds_set (i := 5) sc_all_round.nd (pd_call h_times (hr.mono (by decide)) rfl (pda_cons (pd_call h_square_between (hr.mono (by decide)) rfl (pda_cons (dv 1) (pda_cons (dv 3) pda_nil))) (pda_cons (pd_call h_cross (hr.mono (by decide)) rfl (pda_cons (dv 2) (pda_cons (dv 0) (pda_cons (dv 3) pda_nil)))) pda_nil))))
    (pdss_cons (pds_set (i := 6) sc_all_round.nd (pd_call h_times (hr.mono (by decide)) rfl (pda_cons (pd_call h_square_between (hr.mono (by decide)) rfl (pda_cons (dv 2) (pda_cons (dv 3) pda_nil))) (pda_cons (pd_call h_cross (hr.mono (by decide)) rfl (pda_cons (dv 0) (pda_cons (dv 1) (pda_cons (dv 3) pda_nil)))) pda_nil))))
    (pdss_one (pds_ret (pd_cmp (op_eqA hr.units) lk_eq cEq_mo (pd_call h_plus (hr.mono (by decide)) rfl (pda_cons (dv 4) (pda_cons (pd_call h_plus (hr.mono (by decide)) rfl (pda_cons (dv 5) (pda_cons (dv 6) pda_nil))) pda_nil))) (pd_tup (pda_cons pd_int (pda_cons pd_int pda_nil))) (nomark _)))))))
abbrev N_as_far : List Str := [("p" : Str), ("q" : Str), ("r" : Str), ("s" : Str)]
abbrev P_as_far : List Str := [("p" : Str), ("q" : Str), ("r" : Str), ("s" : Str)]
theorem sc_as_far : FnScope N_as_far P_as_far (defScope s_as_far) := ⟨rfl, rfl, rfl, by decide +kernel, rfl, by decide +kernel, by decide +kernel⟩
theorem der_as_far {c_square_between : Ct} (h_square_between : Has P w K mg base 4 "square_between" 2 c_square_between) (f : Addr) (cdv : Value) (A : Around) (outer : List Env) (s : Shared) (H : Hp) (E : XK) (hr : Room 4 (A.deeper (envOfC "as_far" (defScope s_as_far) s.heap.objs.size f cdv))) : PDSs (bodyX P w K mg base N_as_far "as_far" s_as_far f cdv A outer s H E) (defBody s_as_far) (t_as_far c_square_between) :=
  (pdss_one (pds_ret (pd_cmp (op_eqA hr.units) lk_eq cEq_mo (pd_call h_square_between (hr.mono (by decide)) rfl (pda_cons (dv 0) (pda_cons (dv 1) pda_nil))) (pd_call h_square_between (hr.mono (by decide)) rfl (pda_cons (dv 2) (pda_cons (dv 3) pda_nil))) (nomark _))))
abbrev N_sort_of : List Str := [("making" : Str)]
abbrev P_sort_of : List Str := [("making" : Str)]
theorem sc_sort_of : FnScope N_sort_of P_sort_of (defScope s_sort_of) := ⟨rfl, rfl, rfl, by decide +kernel, rfl, by decide +kernel, by decide +kernel⟩
theorem der_sort_of (T_SORTS : GTab w K mg "SORTS" f_SORTS) (f : Addr) (cdv : Value) (A : Around) (outer : List Env) (s : Shared) (H : Hp) (E : XK) (hr : Room 0 (A.deeper (envOfC "sort_of" (defScope s_sort_of) s.heap.objs.size f cdv))) : PDSs (bodyX P w K mg base N_sort_of "sort_of" s_sort_of f cdv A outer s H E) (defBody s_sort_of) (t_sort_of) :=
  (pdss_one (pds_ret (pd_tab T_SORTS rfl (pd_ix ix_tl lk_ix gIx_mo (dv 0) pd_int))))
abbrev N_grounds : List Str := [("making" : Str)]
abbrev P_grounds : List Str := [("making" : Str)]
theorem sc_grounds : FnScope N_grounds P_grounds (defScope s_grounds) := ⟨rfl, rfl, rfl, by decide +kernel, rfl, by decide +kernel, by decide +kernel⟩
theorem der_grounds (m_list : mg "list" = none) (m_len : mg "len" = none) (T_ASKED : GTab w K mg "ASKED" f_ASKED) (f : Addr) (cdv : Value) (A : Around) (outer : List Env) (s : Shared) (H : Hp) (E : XK) (hr : Room 0 (A.deeper (envOfC "grounds" (defScope s_grounds) s.heap.objs.size f cdv))) : PDSs (bodyX P w K mg base N_grounds "grounds" s_grounds f cdv A outer s H E) (defBody s_grounds) (t_grounds) :=
  (pdss_one (pds_ret (pd_callTy call_list_of lk_list gList_mo rfl m_list boot_list (pd_slice (dv 0) (pdo_some pd_int) (pdo_some (pd_op op_add lk_add gAdd_mo pd_int (pd_callB call_lenA lk_len gLen_mo rfl m_len boot_len (pd_tab T_ASKED rfl (pd_ix ix_tl lk_ix gIx_mo (dv 0) pd_int)))))))))
abbrev N_asked_sorts : List Str := [("making" : Str)]
abbrev P_asked_sorts : List Str := [("making" : Str)]
theorem sc_asked_sorts : FnScope N_asked_sorts P_asked_sorts (defScope s_asked_sorts) := ⟨rfl, rfl, rfl, by decide +kernel, rfl, by decide +kernel, by decide +kernel⟩
theorem der_asked_sorts (m_list : mg "list" = none) (T_ASKED : GTab w K mg "ASKED" f_ASKED) (f : Addr) (cdv : Value) (A : Around) (outer : List Env) (s : Shared) (H : Hp) (E : XK) (hr : Room 0 (A.deeper (envOfC "asked_sorts" (defScope s_asked_sorts) s.heap.objs.size f cdv))) : PDSs (bodyX P w K mg base N_asked_sorts "asked_sorts" s_asked_sorts f cdv A outer s H E) (defBody s_asked_sorts) (t_asked_sorts) :=
  (pdss_one (pds_ret (pd_callTy call_list_of lk_list gList_mo rfl m_list boot_list (pd_tab T_ASKED rfl (pd_ix ix_tl lk_ix gIx_mo (dv 0) pd_int)))))
end
end Mb
set_option Elab.async false
set_option linter.all false
set_option maxRecDepth 100000
set_option maxHeartbeats 4000000
namespace Mb
open PySem PySem.Spec PyProof.Rows L2
/-! The derivations of the pure defs: printed by gen_der.py. -/
section
variable {P : Program} {w : World} {K : PySem.W.Frag} {mg : Str → Option Value} {base : Heap}
abbrev N_suits : List Str := [("sort" : Str), ("asked" : Str)]
abbrev P_suits : List Str := [("sort" : Str), ("asked" : Str)]
theorem sc_suits : FnScope N_suits P_suits (defScope s_suits) := ⟨rfl, rfl, rfl, by decide +kernel, rfl, by decide +kernel, by decide +kernel⟩
theorem der_suits  (f : Addr) (cdv : Value) (A : Around) (outer : List Env) (s : Shared) (H : Hp) (E : XK) (hr : Room 0 (A.deeper (envOfC "suits" (defScope s_suits) s.heap.objs.size f cdv))) : PDSs (bodyX P w K mg base N_suits "suits" s_suits f cdv A outer s H E) (defBody s_suits) (t_suits) :=
  (pdss_one (pds_ret (pd_or (pd_cmp (op_eqA hr.units) lk_eq cEq_mo (dv 0) (dv 1) (nomark _)) (pd_one (pd_and (pd_cmp (op_eqA hr.units) lk_eq cEq_mo (dv 1) pd_str (nomark _)) (pd_one (pd_cmp op_in_seq lk_in cIn_mo (dv 0) (pd_tup (pda_cons pd_str (pda_cons pd_str pda_nil))) rfl)))))))
abbrev N_within : List Str := [("one" : Str), ("most" : Str)]
abbrev P_within : List Str := [("one" : Str), ("most" : Str)]
theorem sc_within : FnScope N_within P_within (defScope s_within) := ⟨rfl, rfl, rfl, by decide +kernel, rfl, by decide +kernel, by decide +kernel⟩
theorem der_within (m_abs : mg "abs" = none) (f : Addr) (cdv : Value) (A : Around) (outer : List Env) (s : Shared) (H : Hp) (E : XK) (hr : Room 0 (A.deeper (envOfC "within" (defScope s_within) s.heap.objs.size f cdv))) : PDSs (bodyX P w K mg base N_within "within" s_within f cdv A outer s H E) (defBody s_within) (t_within) :=
  (pdss_one (pds_ret (pd_and (pd_cmp op_lt lk_int cInt_mo (pd_callB call_abs lk_abs gAbs_mo rfl m_abs boot_abs (pd_ix ix_tl lk_ix gIx_mo (dv 0) pd_int)) (dv 1) (nomark _)) (pd_one (pd_cmp op_lt lk_int cInt_mo (pd_ix ix_tl lk_ix gIx_mo (dv 0) pd_int) (dv 1) (nomark _))))))
abbrev N_too_far : List Str := [("making" : Str)]
abbrev P_too_far : List Str := [("making" : Str)]
theorem sc_too_far : FnScope N_too_far P_too_far (defScope s_too_far) := ⟨rfl, rfl, rfl, by decide +kernel, rfl, by decide +kernel, by decide +kernel⟩
theorem der_too_far {c_within : Ct} (h_within : Has P w K mg base 1 "within" 2 c_within) (g_SHARE_MOST : GVal mg "SHARE_MOST" (.int 1000)) (g_FREE_MOST : GVal mg "FREE_MOST" (.int 1000000000)) (f : Addr) (cdv : Value) (A : Around) (outer : List Env) (s : Shared) (H : Hp) (E : XK) (hr : Room 1 (A.deeper (envOfC "too_far" (defScope s_too_far) s.heap.objs.size f cdv))) : PDSs (bodyX P w K mg base N_too_far "too_far" s_too_far f cdv A outer s H E) (defBody s_too_far) (t_too_far c_within) :=
  (pdss_cons (pds_if (ptd_cmp (op_eqA hr.units) lk_eq cEq_mo (pd_ix ix_tl lk_ix gIx_mo (dv 0) pd_int) pd_str (nomark _)) (pdss_one (pds_ret (pd_not (pd_and (pd_call h_within (hr.mono (by decide)) rfl (pda_cons (pd_ix ix_tl lk_ix gIx_mo (dv 0) pd_int) (pda_cons (pd_gval rfl g_FREE_MOST (fun _ => .int _)) pda_nil))) (pd_one (pd_call h_within (hr.mono (by decide)) rfl (pda_cons (pd_ix ix_tl lk_ix gIx_mo (dv 0) pd_int) (pda_cons (pd_gval rfl g_FREE_MOST (fun _ => .int _)) pda_nil)))))))) pdss_nil)
    (pdss_cons (pds_if (ptd_cmp (op_eqA hr.units) lk_eq cEq_mo (pd_ix ix_tl lk_ix gIx_mo (dv 0) pd_int) pd_str (nomark _)) (pdss_one (pds_ret (pd_not (pd_call h_within (hr.mono (by decide)) rfl (pda_cons (pd_ix ix_tl lk_ix gIx_mo (dv 0) pd_int) (pda_cons (pd_gval rfl g_SHARE_MOST (fun _ => .int _)) pda_nil)))))) pdss_nil)
    (pdss_one (pds_ret pd_bl))))
abbrev N_good : List Str := [("name" : Str), ("sign" : Str)]
abbrev P_good : List Str := [("name" : Str)]
theorem sc_good : FnScope N_good P_good (defScope s_good) := ⟨rfl, rfl, rfl, by decide +kernel, rfl, by decide +kernel, by decide +kernel⟩
theorem der_good (g_LETTERS : GVal mg "LETTERS" (.str "abcdefghijklmnopqrstuvwxyz")) (g_FIGURES : GVal mg "FIGURES" (.str "0123456789")) (m_len : mg "len" = none) (f : Addr) (cdv : Value) (A : Around) (outer : List Env) (s : Shared) (H : Hp) (E : XK) (hr : Room 0 (A.deeper (envOfC "good" (defScope s_good) s.heap.objs.size f cdv))) : PDSs (bodyX P w K mg base N_good "good" s_good f cdv A outer s H E) (defBody s_good) (t_good) :=
  (pdss_cons (pds_if (PDW.pt (pdw_or (ptd_cmp op_lt lk_int cInt_mo (pd_callB call_lenA lk_len gLen_mo rfl m_len boot_len (dv 0)) pd_int (nomark _)) (pdw_or1 (ptd_cmp op_gt lk_int cInt_mo (pd_callB call_lenA lk_len gLen_mo rfl m_len boot_len (dv 0)) pd_int (nomark _))))) (pdss_one (pds_ret pd_bl)) pdss_nil)
    (pdss_cons (pds_if (ptd_cmp op_notSign lk_notSign cNotSign_mo (pd_ix ix_str lk_ixS gIxS_mo (dv 0) pd_int) (pd_gval rfl g_LETTERS (fun _ => .str _)) rfl) (pdss_one (pds_ret pd_bl)) pdss_nil)
    (pdss_cons (pds_forS (i := 1) PassesOwn.never rfl sc_good.nd (dv 0) (pdss_one (pds_if (PDW.pt (pdw_and (ptd_cmp op_notSign lk_notSign cNotSign_mo (dv 1) (pd_gval rfl g_LETTERS (fun _ => .str _)) rfl) (pdw_and1 (ptd_cmp op_notSign lk_notSign cNotSign_mo (dv 1) (pd_gval rfl g_FIGURES (fun _ => .str _)) rfl)))) (pdss_one (pds_ret pd_bl)) pdss_nil)))
    (pdss_one (pds_ret pd_bl)))))
abbrev N_weigh : List Str := [("making" : Str), ("sorts" : Str), ("heavy" : Str), ("word" : Str), ("each" : Str), ("name" : Str)]
abbrev P_weigh : List Str := [("making" : Str), ("sorts" : Str), ("heavy" : Str)]
theorem sc_weigh : FnScope N_weigh P_weigh (defScope s_weigh) := ⟨rfl, rfl, rfl, by decide +kernel, rfl, by decide +kernel, by decide +kernel⟩
theorem der_weigh {c_grounds : Ct} (m_sum : mg "sum" = none) (h_grounds : Has P w K mg base 1 "grounds" 1 c_grounds) (f : Addr) (cdv : Value) (A : Around) (outer : List Env) (s : Shared) (H : Hp) (E : XK) (hr : Room 1 (A.deeper (envOfC "weigh" (defScope s_weigh) s.heap.objs.size f cdv))) : PDSs (bodyX P w K mg base N_weigh "weigh" s_weigh f cdv A outer s H E) (defBody s_weigh) (t_weigh c_grounds) :=
  (pdss_cons (pds_set (i := 3) sc_weigh.nd (pd_ix ix_tl lk_ix gIx_mo (dv 0) pd_int))
    (pdss_cons (pds_if (ptd_cmp (op_eqA hr.units) lk_eq cEq_mo (dv 3) pd_str (nomark _)) (pdss_one (pds_ret pd_int)) pdss_nil)
    (pdss_cons (pds_setLcL (i := 4) rfl sc_weigh.nd (blkOk_by (own := [("name", 5)]) (N := N_weigh) (sc := defScope s_weigh) (by decide +kernel)) (fun _ _ _ _ _ => pg_name (i := 5) sc_weigh.nd rfl (Or.inl rfl)) (fun _ _ _ _ _ => pdts_nil) (fun _ _ _ _ _ => (pd_dget (hu_of hr) (dv 2) (dv 5))) (pd_call h_grounds (hr.mono (by decide)) rfl (pda_cons (dv 0) pda_nil)) (sw_true rfl rfl rfl (by decide +kernel)))
    (pdss_cons (pds_if (PDW.pt (pdw_or (ptd_cmp (op_eqA hr.units) lk_eq cEq_mo (dv 3) pd_str (nomark _)) (pdw_or1 (ptd_cmp (op_eqA hr.units) lk_eq cEq_mo (dv 3) pd_str (nomark _))))) (pdss_one (pds_ret (pd_op op_add lk_add gAdd_mo (pd_ix ix_tl lk_ix gIx_mo (dv 4) pd_int) (pd_op op_mulW lk_mul gMul_mo pd_int (pd_ix ix_tl lk_ix gIx_mo (dv 4) pd_int))))) pdss_nil)
    (pdss_cons (pds_if (ptd_cmp (op_eqA hr.units) lk_eq cEq_mo (dv 3) pd_str (nomark _)) (pdss_cons (pds_if (ptd_cmp (op_eqA hr.units) lk_eq cEq_mo (pd_dget (hu_of hr) (dv 1) (pd_ix ix_tl lk_ix gIx_mo (dv 0) pd_int)) pd_str (nomark _)) (pdss_one (pds_ret (pd_op op_mulW lk_mul gMul_mo pd_int (pd_op op_add lk_add gAdd_mo (pd_ix ix_tl lk_ix gIx_mo (dv 4) pd_int) (pd_ix ix_tl lk_ix gIx_mo (dv 4) pd_int))))) pdss_nil)
    (pdss_one (pds_ret (pd_op op_add lk_add gAdd_mo (pd_op op_mulW lk_mul gMul_mo pd_int (pd_ix ix_tl lk_ix gIx_mo (dv 4) pd_int)) (pd_ix ix_tl lk_ix gIx_mo (dv 4) pd_int))))) pdss_nil)
    (pdss_cons (pds_if (PDW.pt (pdw_or (ptd_cmp (op_eqA hr.units) lk_eq cEq_mo (dv 3) pd_str (nomark _)) (pdw_or1 (ptd_cmp (op_eqA hr.units) lk_eq cEq_mo (dv 3) pd_str (nomark _))))) (pdss_one (pds_ret (pd_op op_mulW lk_mul gMul_mo pd_int (pd_callB (cr_sum rfl) lk_sum gSum_mo rfl m_sum (by decide +kernel) (dv 4))))) pdss_nil)
    (pdss_one (pds_ret (pd_callB (cr_sum rfl) lk_sum gSum_mo rfl m_sum (by decide +kernel) (dv 4))))))))))
abbrev N_grounds_stand : List Str := [("sorts" : Str), ("making" : Str), ("name" : Str), ("asked" : Str)]
abbrev P_grounds_stand : List Str := [("sorts" : Str), ("making" : Str)]
theorem sc_grounds_stand : FnScope N_grounds_stand P_grounds_stand (defScope s_grounds_stand) := ⟨rfl, rfl, rfl, by decide +kernel, rfl, by decide +kernel, by decide +kernel⟩
theorem der_grounds_stand {c_suits : Ct} {c_asked_sorts : Ct} {c_grounds : Ct} (h_suits : Has P w K mg base 1 "suits" 2 c_suits) (m_zip : mg "zip" = none) (h_asked_sorts : Has P w K mg base 1 "asked_sorts" 1 c_asked_sorts) (h_grounds : Has P w K mg base 1 "grounds" 1 c_grounds) (f : Addr) (cdv : Value) (A : Around) (outer : List Env) (s : Shared) (H : Hp) (E : XK) (hr : Room 1 (A.deeper (envOfC "grounds_stand" (defScope s_grounds_stand) s.heap.objs.size f cdv))) : PDSs (bodyX P w K mg base N_grounds_stand "grounds_stand" s_grounds_stand f cdv A outer s H E) (defBody s_grounds_stand) (t_grounds_stand c_suits c_asked_sorts c_grounds) :=
  (pdss_cons (pds_forL (i := 2) PassesOwn.never rfl sc_grounds_stand.nd (pd_call h_grounds (hr.mono (by decide)) rfl (pda_cons (dv 1) pda_nil)) (pdss_one (pds_if (ptd_dnin (hu_of hr) (dv 2) (dv 0)) (pdss_one pds_never) pdss_nil)))
    (pdss_one (pds_forZ (i := 2) (j := 3) PassesOwn.never rfl rfl m_zip (pgs_cons (pg_name (i := 2) sc_grounds_stand.nd rfl (Or.inl rfl)) (pgs_cons (pg_name (i := 3) sc_grounds_stand.nd rfl (Or.inl rfl)) pgs_nil)) (pda_cons (pd_call h_grounds (hr.mono (by decide)) rfl (pda_cons (dv 1) pda_nil)) (pda_cons (pd_call h_asked_sorts (hr.mono (by decide)) rfl (pda_cons (dv 1) pda_nil)) pda_nil)) (pdss_one (pds_if (ptd_not (ptd_val (pd_call h_suits (hr.mono (by decide)) rfl (pda_cons (pd_dget (hu_of hr) (dv 0) (dv 2)) (pda_cons (dv 3) pda_nil))))) (pdss_one pds_never) pdss_nil)))))
abbrev N_admitted : List Str := [("sorts" : Str), ("heavy" : Str), ("name" : Str), ("making" : Str), ("weight" : Str)]
abbrev P_admitted : List Str := [("sorts" : Str), ("heavy" : Str), ("name" : Str), ("making" : Str)]
theorem sc_admitted : FnScope N_admitted P_admitted (defScope s_admitted) := ⟨rfl, rfl, rfl, by decide +kernel, rfl, by decide +kernel, by decide +kernel⟩
theorem der_admitted {c_weigh : Ct} {c_too_far : Ct} {c_grounds_stand : Ct} {c_good : Ct} (g_MOST : GVal mg "MOST" (.int 40)) (h_weigh : Has P w K mg base 2 "weigh" 3 c_weigh) (h_too_far : Has P w K mg base 2 "too_far" 1 c_too_far) (h_grounds_stand : Has P w K mg base 2 "grounds_stand" 2 c_grounds_stand) (h_good : Has P w K mg base 1 "good" 1 c_good) (f : Addr) (cdv : Value) (A : Around) (outer : List Env) (s : Shared) (H : Hp) (E : XK) (hr : Room 2 (A.deeper (envOfC "admitted" (defScope s_admitted) s.heap.objs.size f cdv))) : PDSs (bodyX P w K mg base N_admitted "admitted" s_admitted f cdv A outer s H E) (defBody s_admitted) (t_admitted c_weigh c_too_far c_grounds_stand c_good) :=
  (pdss_cons (pds_if (ptd_not (ptd_val (pd_call h_good (hr.mono (by decide)) rfl (pda_cons (dv 2) pda_nil)))) (pdss_one pds_never) pdss_nil)
    (pdss_cons (pds_if (ptd_din (hu_of hr) (dv 2) (dv 0)) (pdss_one pds_never) pdss_nil)
    (pdss_cons (pds_expr (pd_call h_grounds_stand (hr.mono (by decide)) rfl (pda_cons (dv 0) (pda_cons (dv 3) pda_nil))))
    (pdss_cons (pds_if (ptd_val (pd_call h_too_far (hr.mono (by decide)) rfl (pda_cons (dv 3) pda_nil))) (pdss_one pds_never) pdss_nil)
    (pdss_cons (pds_set (i := 4) sc_admitted.nd (pd_call h_weigh (hr.mono (by decide)) rfl (pda_cons (dv 3) (pda_cons (dv 0) (pda_cons (dv 1) pda_nil)))))
    (pdss_cons (pds_if (ptd_cmp op_gt lk_int cInt_mo (dv 4) (pd_gval rfl g_MOST (fun _ => .int _)) (nomark _)) (pdss_one pds_never) pdss_nil)
    (pdss_one (pds_ret (dv 4)))))))))
abbrev N_judged : List Str := [("word" : Str), ("bare" : Str)]
abbrev P_judged : List Str := [("word" : Str), ("bare" : Str)]
theorem sc_judged : FnScope N_judged P_judged (defScope s_judged) := ⟨rfl, rfl, rfl, by decide +kernel, rfl, by decide +kernel, by decide +kernel⟩
theorem der_judged {c_square_on : Ct} {c_side_by_side : Ct} {c_as_far : Ct} {c_all_round : Ct} {c_in_line : Ct} (h_square_on : Has P w K mg base 1 "square_on" 2 c_square_on) (h_side_by_side : Has P w K mg base 1 "side_by_side" 2 c_side_by_side) (h_as_far : Has P w K mg base 5 "as_far" 4 c_as_far) (h_all_round : Has P w K mg base 5 "all_round" 4 c_all_round) (h_in_line : Has P w K mg base 5 "in_line" 3 c_in_line) (f : Addr) (cdv : Value) (A : Around) (outer : List Env) (s : Shared) (H : Hp) (E : XK) (hr : Room 5 (A.deeper (envOfC "judged" (defScope s_judged) s.heap.objs.size f cdv))) : PDSs (bodyX P w K mg base N_judged "judged" s_judged f cdv A outer s H E) (defBody s_judged) (t_judged c_square_on c_side_by_side c_as_far c_all_round c_in_line) :=
  (pdss_cons (pds_if (ptd_cmp (op_eqA hr.units) lk_eq cEq_mo (dv 0) pd_str (nomark _)) (pdss_one (pds_ret (pd_call h_in_line (hr.mono (by decide)) rfl (pda_cons (pd_ix ix_tl lk_ix gIx_mo (dv 1) pd_int) (pda_cons (pd_ix ix_tl lk_ix gIx_mo (dv 1) pd_int) (pda_cons (pd_ix ix_tl lk_ix gIx_mo (dv 1) pd_int) pda_nil)))))) pdss_nil)
    (pdss_cons (pds_if (ptd_cmp (op_eqA hr.units) lk_eq cEq_mo (dv 0) pd_str (nomark _)) (pdss_one (pds_ret (pd_call h_all_round (hr.mono (by decide)) rfl (pda_cons (pd_ix ix_tl lk_ix gIx_mo (dv 1) pd_int) (pda_cons (pd_ix ix_tl lk_ix gIx_mo (dv 1) pd_int) (pda_cons (pd_ix ix_tl lk_ix gIx_mo (dv 1) pd_int) (pda_cons (pd_ix ix_tl lk_ix gIx_mo (dv 1) pd_int) pda_nil))))))) pdss_nil)
    (pdss_cons (pds_if (ptd_cmp (op_eqA hr.units) lk_eq cEq_mo (dv 0) pd_str (nomark _)) (pdss_one (pds_ret (pd_call h_as_far (hr.mono (by decide)) rfl (pda_cons (pd_ix ix_tl lk_ix gIx_mo (dv 1) pd_int) (pda_cons (pd_ix ix_tl lk_ix gIx_mo (dv 1) pd_int) (pda_cons (pd_ix ix_tl lk_ix gIx_mo (dv 1) pd_int) (pda_cons (pd_ix ix_tl lk_ix gIx_mo (dv 1) pd_int) pda_nil))))))) pdss_nil)
    (pdss_cons (pds_if (ptd_cmp (op_eqA hr.units) lk_eq cEq_mo (dv 0) pd_str (nomark _)) (pdss_one (pds_ret (pd_call h_side_by_side (hr.mono (by decide)) rfl (pda_cons (pd_ix ix_tl lk_ix gIx_mo (dv 1) pd_int) (pda_cons (pd_ix ix_tl lk_ix gIx_mo (dv 1) pd_int) pda_nil))))) pdss_nil)
    (pdss_one (pds_ret (pd_call h_square_on (hr.mono (by decide)) rfl (pda_cons (pd_ix ix_tl lk_ix gIx_mo (dv 1) pd_int) (pda_cons (pd_ix ix_tl lk_ix gIx_mo (dv 1) pd_int) pda_nil)))))))))
abbrev N_shown_or : List Str := [("word" : Str), ("found" : Str), ("why" : Str)]
abbrev P_shown_or : List Str := [("word" : Str), ("found" : Str), ("why" : Str)]
theorem sc_shown_or : FnScope N_shown_or P_shown_or (defScope s_shown_or) := ⟨rfl, rfl, rfl, by decide +kernel, rfl, by decide +kernel, by decide +kernel⟩
theorem der_shown_or  (f : Addr) (cdv : Value) (A : Around) (outer : List Env) (s : Shared) (H : Hp) (E : XK) (hr : Room 0 (A.deeper (envOfC "shown_or" (defScope s_shown_or) s.heap.objs.size f cdv))) : PDSs (bodyX P w K mg base N_shown_or "shown_or" s_shown_or f cdv A outer s H E) (defBody s_shown_or) (t_shown_or) :=
  (pdss_cons (pds_if (ptd_cmp op_isN' lk_isN cIsN_mo (dv 1) pd_non (nomark _)) (pdss_one (pds_ret (pd_tup (pda_cons pd_str (pda_cons (dv 2) pda_nil))))) pdss_nil)
    (pdss_one (pds_ret (pd_op op_catT lk_catT gCatT_mo (pd_tup (pda_cons (dv 0) pda_nil)) (dv 1)))))
abbrev N_cut_made : List Str := [("one" : Str), ("other" : Str), ("which" : Str), ("word" : Str), ("places" : Str)]
abbrev P_cut_made : List Str := [("one" : Str), ("other" : Str), ("which" : Str)]
theorem sc_cut_made : FnScope N_cut_made P_cut_made (defScope s_cut_made) := ⟨rfl, rfl, rfl, by decide +kernel, rfl, by decide +kernel, by decide +kernel⟩
theorem der_cut_made {c_line_cuts : Ct} {c_ring_cuts : Ct} (h_line_cuts : Has P w K mg base 4 "line_cuts" 2 c_line_cuts) (h_ring_cuts : Has P w K mg base 5 "ring_cuts" 2 c_ring_cuts) (f : Addr) (cdv : Value) (A : Around) (outer : List Env) (s : Shared) (H : Hp) (E : XK) (hr : Room 5 (A.deeper (envOfC "cut_made" (defScope s_cut_made) s.heap.objs.size f cdv))) : PDSs (bodyX P w K mg base N_cut_made "cut_made" s_cut_made f cdv A outer s H E) (defBody s_cut_made) (t_cut_made c_line_cuts c_ring_cuts) :=
  (pdss_cons (pds_if (ptd_cmp (op_eqA hr.units) lk_eq cEq_mo (pd_ix ix_tl lk_ix gIx_mo (dv 0) pd_int) pd_str (nomark _)) (pdss_one (pds_unp (is := [3, 4]) rfl (pgs_cons (pg_name (i := 3) sc_cut_made.nd rfl (Or.inl rfl)) (pgs_cons (pg_name (i := 4) sc_cut_made.nd rfl (Or.inl rfl)) pgs_nil)) (pd_call h_line_cuts (hr.mono (by decide)) rfl (pda_cons (pd_slice (dv 0) (pdo_some pd_int) pdo_none) (pda_cons (pd_slice (dv 1) (pdo_some pd_int) pdo_none) pda_nil))))) (pdss_one (pds_unp (is := [3, 4]) rfl (pgs_cons (pg_name (i := 3) sc_cut_made.nd rfl (Or.inl rfl)) (pgs_cons (pg_name (i := 4) sc_cut_made.nd rfl (Or.inl rfl)) pgs_nil)) (pd_call h_ring_cuts (hr.mono (by decide)) rfl (pda_cons (pd_slice (dv 0) (pdo_some pd_int) pdo_none) (pda_cons (pd_slice (dv 1) (pdo_some pd_int) pdo_none) pda_nil))))))
    (pdss_cons (pds_if (ptd_cmp (op_neA hr.units) lk_ne cNe_mo (dv 3) pd_str (nomark _)) (pdss_one (pds_ret (pd_tup (pda_cons pd_str (pda_cons (dv 3) pda_nil))))) pdss_nil)
    (pdss_one (pds_ret (pd_op op_catT lk_catT gCatT_mo (pd_tup (pda_cons pd_str pda_nil)) (pd_ix ix_tl lk_ix gIx_mo (dv 4) (pd_op op_sub lk_sub gSub_mo (dv 2) pd_int)))))))
abbrev N_telling_of : List Str := [("name" : Str), ("making" : Str), ("at" : Str), ("ranks" : Str), ("gone" : Str), ("first" : Str), ("one" : Str), ("found" : Str)]
abbrev P_telling_of : List Str := [("name" : Str), ("making" : Str), ("at" : Str), ("ranks" : Str)]
theorem sc_telling_of : FnScope N_telling_of P_telling_of (defScope s_telling_of) := ⟨rfl, rfl, rfl, by decide +kernel, rfl, by decide +kernel, by decide +kernel⟩
theorem der_telling_of {c_made_of : Ct} {c_grounds : Ct} (m_len : mg "len" = none) (h_made_of : Has P w K mg base 7 "made_of" 2 c_made_of) (h_grounds : Has P w K mg base 1 "grounds" 1 c_grounds) (f : Addr) (cdv : Value) (A : Around) (outer : List Env) (s : Shared) (H : Hp) (E : XK) (hr : Room 7 (A.deeper (envOfC "telling_of" (defScope s_telling_of) s.heap.objs.size f cdv))) : PDSs (bodyX P w K mg base N_telling_of "telling_of" s_telling_of f cdv A outer s H E) (defBody s_telling_of) (t_telling_of c_made_of c_grounds) :=
  (pdss_cons (pds_setLcL (i := 4) rfl sc_telling_of.nd (blkOk_by (own := [("one", 6)]) (N := N_telling_of) (sc := defScope s_telling_of) (by decide +kernel)) (fun _ _ _ _ _ => pg_name (i := 6) sc_telling_of.nd rfl (Or.inl rfl)) (fun _ _ _ _ _ => (pdts_one (ptd_cmp (op_eqA hr.units) lk_eq cEq_mo (pd_ix ix_tl lk_ix gIx_mo (pd_dget (hu_of hr) (dv 2) (dv 6)) pd_int) pd_str (nomark _)))) (fun _ _ _ _ _ => (pd_dget (hu_of hr) (dv 2) (dv 6))) (pd_call h_grounds (hr.mono (by decide)) rfl (pda_cons (dv 1) pda_nil)) (sw_true rfl rfl rfl (by decide +kernel)))
    (pdss_cons (pds_if (ptd_cmp (op_eqA hr.units) lk_eq cEq_mo (pd_callB call_lenA lk_len gLen_mo rfl m_len boot_len (dv 4)) pd_int (nomark _)) (pdss_cons (pds_set (i := 7) sc_telling_of.nd (pd_call h_made_of (hr.mono (by decide)) rfl (pda_cons (dv 1) (pda_cons (dv 2) pda_nil))))
    (pdss_cons (pds_if (ptd_cmp (op_eqA hr.units) lk_eq cEq_mo (pd_ix ix_tl lk_ix gIx_mo (dv 7) pd_int) pd_str (nomark _)) (pdss_one (pds_ret (pd_tup (pda_cons pd_str (pda_cons (dv 0) (pda_cons (pd_ix ix_tl lk_ix gIx_mo (dv 7) pd_int) pda_nil)))))) pdss_nil)
    (pdss_one (pds_ret (dv 7))))) pdss_nil)
    (pdss_cons (pds_set (i := 5) sc_telling_of.nd (pd_ix ix_tl lk_ix gIx_mo (dv 4) pd_int))
    (pdss_cons (pds_forL (i := 6) PassesOwn.never rfl sc_telling_of.nd (dv 4) (pdss_one (pds_if (ptd_cmp op_lt lk_int cInt_mo (pd_dget (hu_of hr) (dv 3) (pd_ix ix_tl lk_ix gIx_mo (dv 6) pd_int)) (pd_dget (hu_of hr) (dv 3) (pd_ix ix_tl lk_ix gIx_mo (dv 5) pd_int)) (nomark _)) (pdss_one (pds_set (i := 5) sc_telling_of.nd (dv 6))) pdss_nil)))
    (pdss_one (pds_ret (dv 5)))))))
abbrev N_law_gcd : List Str := [("_law_one" : Str), ("_law_other" : Str)]
abbrev P_law_gcd : List Str := [("_law_one" : Str), ("_law_other" : Str)]
theorem sc_law_gcd : FnScope N_law_gcd P_law_gcd (defScope s_law_gcd) := ⟨rfl, rfl, rfl, by decide +kernel, rfl, by decide +kernel, by decide +kernel⟩
theorem der_law_gcd (m_abs : mg "abs" = none) (f : Addr) (cdv : Value) (A : Around) (outer : List Env) (s : Shared) (H : Hp) (E : XK) (hr : Room 0 (A.deeper (envOfC "_law_gcd" (defScope s_law_gcd) s.heap.objs.size f cdv))) : PDSs (bodyX P w K mg base N_law_gcd "_law_gcd" s_law_gcd f cdv A outer s H E) (defBody s_law_gcd) (t_law_gcd) :=
  (pdss_cons (pds_set (i := 0) sc_law_gcd.nd (pd_callB call_abs lk_abs gAbs_mo rfl m_abs boot_abs (dv 0)))
    (pdss_cons (pds_set (i := 1) sc_law_gcd.nd (pd_callB call_abs lk_abs gAbs_mo rfl m_abs boot_abs (dv 1)))
    (pdss_cons (pds_while PassesOwn.never (ptd_cmp op_gt lk_int cInt_mo (dv 1) pd_int (nomark _)) (pdss_one (pds_par (i := 0) (j := 1) rfl sc_law_gcd.nd (pda_cons (dv 1) (pda_cons (pd_op op_modN lk_mod gMod_mo (dv 0) (dv 1)) pda_nil)))))
    (pdss_one (pds_ret (dv 0))))))
abbrev N_law_low : List Str := [("_law_top" : Str), ("_law_bottom" : Str), ("_law_most" : Str)]
abbrev P_law_low : List Str := [("_law_top" : Str), ("_law_bottom" : Str)]
theorem sc_law_low : FnScope N_law_low P_law_low (defScope s_law_low) := ⟨rfl, rfl, rfl, by decide +kernel, rfl, by decide +kernel, by decide +kernel⟩
theorem der_law_low {c_law_gcd : Ct} (h_law_gcd : Has P w K mg base 1 "_law_gcd" 2 c_law_gcd) (f : Addr) (cdv : Value) (A : Around) (outer : List Env) (s : Shared) (H : Hp) (E : XK) (hr : Room 1 (A.deeper (envOfC "_law_low" (defScope s_law_low) s.heap.objs.size f cdv))) : PDSs (bodyX P w K mg base N_law_low "_law_low" s_law_low f cdv A outer s H E) (defBody s_law_low) (t_law_low c_law_gcd) :=
  (pdss_cons (pds_if (ptd_cmp op_lt lk_int cInt_mo (dv 1) pd_int (nomark _)) (pdss_one (pds_par (i := 0) (j := 1) rfl sc_law_low.nd (pda_cons (pd_un un_neg lk_neg gNeg_mo (dv 0)) (pda_cons (pd_un un_neg lk_neg gNeg_mo (dv 1)) pda_nil)))) pdss_nil)
    (pdss_cons (pds_set (i := 2) sc_law_low.nd (pd_call h_law_gcd (hr.mono (by decide)) rfl (pda_cons (dv 0) (pda_cons (dv 1) pda_nil))))
    (pdss_one (pds_ret (pd_tup (pda_cons (pd_op op_fdivX lk_fdiv gFdiv_mo (dv 0) (dv 2)) (pda_cons (pd_op op_fdivX lk_fdiv gFdiv_mo (dv 1) (dv 2)) pda_nil)))))))
abbrev N_law_plus : List Str := [("_law_one" : Str), ("_law_other" : Str)]
abbrev P_law_plus : List Str := [("_law_one" : Str), ("_law_other" : Str)]
theorem sc_law_plus : FnScope N_law_plus P_law_plus (defScope s_law_plus) := ⟨rfl, rfl, rfl, by decide +kernel, rfl, by decide +kernel, by decide +kernel⟩
theorem der_law_plus  (f : Addr) (cdv : Value) (A : Around) (outer : List Env) (s : Shared) (H : Hp) (E : XK) (hr : Room 0 (A.deeper (envOfC "_law_plus" (defScope s_law_plus) s.heap.objs.size f cdv))) : PDSs (bodyX P w K mg base N_law_plus "_law_plus" s_law_plus f cdv A outer s H E) (defBody s_law_plus) (t_law_plus) :=
  (pdss_one (pds_ret (pd_tup (pda_cons (pd_op op_add lk_add gAdd_mo (pd_op op_mulW lk_mul gMul_mo (pd_ix ix_tl lk_ix gIx_mo (dv 0) pd_int) (pd_ix ix_tl lk_ix gIx_mo (dv 1) pd_int)) (pd_op op_mulW lk_mul gMul_mo (pd_ix ix_tl lk_ix gIx_mo (dv 1) pd_int) (pd_ix ix_tl lk_ix gIx_mo (dv 0) pd_int))) (pda_cons (pd_op op_mulW lk_mul gMul_mo (pd_ix ix_tl lk_ix gIx_mo (dv 0) pd_int) (pd_ix ix_tl lk_ix gIx_mo (dv 1) pd_int)) pda_nil)))))
abbrev N_law_less : List Str := [("_law_one" : Str), ("_law_other" : Str)]
abbrev P_law_less : List Str := [("_law_one" : Str), ("_law_other" : Str)]
theorem sc_law_less : FnScope N_law_less P_law_less (defScope s_law_less) := ⟨rfl, rfl, rfl, by decide +kernel, rfl, by decide +kernel, by decide +kernel⟩
theorem der_law_less  (f : Addr) (cdv : Value) (A : Around) (outer : List Env) (s : Shared) (H : Hp) (E : XK) (hr : Room 0 (A.deeper (envOfC "_law_less" (defScope s_law_less) s.heap.objs.size f cdv))) : PDSs (bodyX P w K mg base N_law_less "_law_less" s_law_less f cdv A outer s H E) (defBody s_law_less) (t_law_less) :=
  (pdss_one (pds_ret (pd_tup (pda_cons (pd_op op_sub lk_sub gSub_mo (pd_op op_mulW lk_mul gMul_mo (pd_ix ix_tl lk_ix gIx_mo (dv 0) pd_int) (pd_ix ix_tl lk_ix gIx_mo (dv 1) pd_int)) (pd_op op_mulW lk_mul gMul_mo (pd_ix ix_tl lk_ix gIx_mo (dv 1) pd_int) (pd_ix ix_tl lk_ix gIx_mo (dv 0) pd_int))) (pda_cons (pd_op op_mulW lk_mul gMul_mo (pd_ix ix_tl lk_ix gIx_mo (dv 0) pd_int) (pd_ix ix_tl lk_ix gIx_mo (dv 1) pd_int)) pda_nil)))))
abbrev N_law_times : List Str := [("_law_one" : Str), ("_law_other" : Str)]
abbrev P_law_times : List Str := [("_law_one" : Str), ("_law_other" : Str)]
theorem sc_law_times : FnScope N_law_times P_law_times (defScope s_law_times) := ⟨rfl, rfl, rfl, by decide +kernel, rfl, by decide +kernel, by decide +kernel⟩
theorem der_law_times  (f : Addr) (cdv : Value) (A : Around) (outer : List Env) (s : Shared) (H : Hp) (E : XK) (hr : Room 0 (A.deeper (envOfC "_law_times" (defScope s_law_times) s.heap.objs.size f cdv))) : PDSs (bodyX P w K mg base N_law_times "_law_times" s_law_times f cdv A outer s H E) (defBody s_law_times) (t_law_times) :=
  (pdss_one (pds_ret (pd_tup (pda_cons (pd_op op_mulW lk_mul gMul_mo (pd_ix ix_tl lk_ix gIx_mo (dv 0) pd_int) (pd_ix ix_tl lk_ix gIx_mo (dv 1) pd_int)) (pda_cons (pd_op op_mulW lk_mul gMul_mo (pd_ix ix_tl lk_ix gIx_mo (dv 0) pd_int) (pd_ix ix_tl lk_ix gIx_mo (dv 1) pd_int)) pda_nil)))))
abbrev N_law_even : List Str := [("_law_one" : Str), ("_law_other" : Str)]
abbrev P_law_even : List Str := [("_law_one" : Str), ("_law_other" : Str)]
theorem sc_law_even : FnScope N_law_even P_law_even (defScope s_law_even) := ⟨rfl, rfl, rfl, by decide +kernel, rfl, by decide +kernel, by decide +kernel⟩
theorem der_law_even  (f : Addr) (cdv : Value) (A : Around) (outer : List Env) (s : Shared) (H : Hp) (E : XK) (hr : Room 0 (A.deeper (envOfC "_law_even" (defScope s_law_even) s.heap.objs.size f cdv))) : PDSs (bodyX P w K mg base N_law_even "_law_even" s_law_even f cdv A outer s H E) (defBody s_law_even) (t_law_even) :=
  (pdss_one (pds_ret (pd_cmp (op_eqA hr.units) lk_eq cEq_mo (pd_op op_mulW lk_mul gMul_mo (pd_ix ix_tl lk_ix gIx_mo (dv 0) pd_int) (pd_ix ix_tl lk_ix gIx_mo (dv 1) pd_int)) (pd_op op_mulW lk_mul gMul_mo (pd_ix ix_tl lk_ix gIx_mo (dv 1) pd_int) (pd_ix ix_tl lk_ix gIx_mo (dv 0) pd_int)) (nomark _))))
abbrev N_law_whole : List Str := [("_law_found" : Str)]
abbrev P_law_whole : List Str := [("_law_found" : Str)]
theorem sc_law_whole : FnScope N_law_whole P_law_whole (defScope s_law_whole) := ⟨rfl, rfl, rfl, by decide +kernel, rfl, by decide +kernel, by decide +kernel⟩
theorem der_law_whole (m_isinstance : mg "isinstance" = none) (m_int : mg "int" = none) (m_bool : mg "bool" = none) (f : Addr) (cdv : Value) (A : Around) (outer : List Env) (s : Shared) (H : Hp) (E : XK) (hr : Room 0 (A.deeper (envOfC "_law_whole" (defScope s_law_whole) s.heap.objs.size f cdv))) : PDSs (bodyX P w K mg base N_law_whole "_law_whole" s_law_whole f cdv A outer s H E) (defBody s_law_whole) (t_law_whole) :=
  (pdss_one (pds_ret (pd_and (pd_isi (T := "int") rfl m_isinstance rfl m_int (by decide +kernel) (dv 0)) (pd_one (pd_not (pd_isi (T := "bool") rfl m_isinstance rfl m_bool (by decide +kernel) (dv 0)))))))
abbrev N_law_is_frac : List Str := [("_law_found" : Str)]
abbrev P_law_is_frac : List Str := [("_law_found" : Str)]
theorem sc_law_is_frac : FnScope N_law_is_frac P_law_is_frac (defScope s_law_is_frac) := ⟨rfl, rfl, rfl, by decide +kernel, rfl, by decide +kernel, by decide +kernel⟩
theorem der_law_is_frac {c_law_gcd : Ct} {c_law_whole : Ct} (h_law_gcd : Has P w K mg base 1 "_law_gcd" 2 c_law_gcd) (h_law_whole : Has P w K mg base 1 "_law_whole" 1 c_law_whole) (m_isinstance : mg "isinstance" = none) (m_tuple : mg "tuple" = none) (m_len : mg "len" = none) (f : Addr) (cdv : Value) (A : Around) (outer : List Env) (s : Shared) (H : Hp) (E : XK) (hr : Room 1 (A.deeper (envOfC "_law_is_frac" (defScope s_law_is_frac) s.heap.objs.size f cdv))) : PDSs (bodyX P w K mg base N_law_is_frac "_law_is_frac" s_law_is_frac f cdv A outer s H E) (defBody s_law_is_frac) (t_law_is_frac c_law_gcd c_law_whole) :=
  (pdss_cons (pds_if (PDW.pt (pdw_or (ptd_not (ptd_val (pd_isi (T := "tuple") rfl m_isinstance rfl m_tuple (by decide +kernel) (dv 0)))) (pdw_or1 (ptd_cmp (op_neA hr.units) lk_ne cNe_mo (pd_callB call_lenA lk_len gLen_mo rfl m_len boot_len (dv 0)) pd_int (nomark _))))) (pdss_one (pds_ret pd_bl)) pdss_nil)
    (pdss_cons (pds_if (PDW.pt (pdw_or (ptd_not (ptd_val (pd_call h_law_whole (hr.mono (by decide)) rfl (pda_cons (pd_ix ix_tl lk_ix gIx_mo (dv 0) pd_int) pda_nil)))) (pdw_or (ptd_not (ptd_val (pd_call h_law_whole (hr.mono (by decide)) rfl (pda_cons (pd_ix ix_tl lk_ix gIx_mo (dv 0) pd_int) pda_nil)))) (pdw_or1 (ptd_cmp op_lt lk_int cInt_mo (pd_ix ix_tl lk_ix gIx_mo (dv 0) pd_int) pd_int (nomark _)))))) (pdss_one (pds_ret pd_bl)) pdss_nil)
    (pdss_one (pds_ret (pd_cmp (op_eqA hr.units) lk_eq cEq_mo (pd_call h_law_gcd (hr.mono (by decide)) rfl (pda_cons (pd_ix ix_tl lk_ix gIx_mo (dv 0) pd_int) (pda_cons (pd_ix ix_tl lk_ix gIx_mo (dv 0) pd_int) pda_nil))) pd_int (nomark _))))))
abbrev N_law_is_place : List Str := [("_law_found" : Str)]
abbrev P_law_is_place : List Str := [("_law_found" : Str)]
theorem sc_law_is_place : FnScope N_law_is_place P_law_is_place (defScope s_law_is_place) := ⟨rfl, rfl, rfl, by decide +kernel, rfl, by decide +kernel, by decide +kernel⟩
theorem der_law_is_place {c_law_is_frac : Ct} (m_isinstance : mg "isinstance" = none) (m_tuple : mg "tuple" = none) (m_len : mg "len" = none) (h_law_is_frac : Has P w K mg base 2 "_law_is_frac" 1 c_law_is_frac) (f : Addr) (cdv : Value) (A : Around) (outer : List Env) (s : Shared) (H : Hp) (E : XK) (hr : Room 2 (A.deeper (envOfC "_law_is_place" (defScope s_law_is_place) s.heap.objs.size f cdv))) : PDSs (bodyX P w K mg base N_law_is_place "_law_is_place" s_law_is_place f cdv A outer s H E) (defBody s_law_is_place) (t_law_is_place c_law_is_frac) :=
  (pdss_one (pds_ret (pd_and (pd_isi (T := "tuple") rfl m_isinstance rfl m_tuple (by decide +kernel) (dv 0)) (pd_and (pd_cmp (op_eqA hr.units) lk_eq cEq_mo (pd_callB call_lenA lk_len gLen_mo rfl m_len boot_len (dv 0)) pd_int (nomark _)) (pd_and (pd_call h_law_is_frac (hr.mono (by decide)) rfl (pda_cons (pd_ix ix_tl lk_ix gIx_mo (dv 0) pd_int) pda_nil)) (pd_one (pd_call h_law_is_frac (hr.mono (by decide)) rfl (pda_cons (pd_ix ix_tl lk_ix gIx_mo (dv 0) pd_int) pda_nil))))))))
abbrev N_law_is_line : List Str := [("_law_found" : Str), ("_law_part" : Str)]
abbrev P_law_is_line : List Str := [("_law_found" : Str)]
theorem sc_law_is_line : FnScope N_law_is_line P_law_is_line (defScope s_law_is_line) := ⟨rfl, rfl, rfl, by decide +kernel, rfl, by decide +kernel, by decide +kernel⟩
theorem der_law_is_line {c_law_gcd : Ct} {c_law_whole : Ct} (h_law_gcd : Has P w K mg base 1 "_law_gcd" 2 c_law_gcd) (h_law_whole : Has P w K mg base 1 "_law_whole" 1 c_law_whole) (m_isinstance : mg "isinstance" = none) (m_tuple : mg "tuple" = none) (m_len : mg "len" = none) (f : Addr) (cdv : Value) (A : Around) (outer : List Env) (s : Shared) (H : Hp) (E : XK) (hr : Room 1 (A.deeper (envOfC "_law_is_line" (defScope s_law_is_line) s.heap.objs.size f cdv))) : PDSs (bodyX P w K mg base N_law_is_line "_law_is_line" s_law_is_line f cdv A outer s H E) (defBody s_law_is_line) (t_law_is_line c_law_gcd c_law_whole) :=
  (pdss_cons (pds_if (PDW.pt (pdw_or (ptd_not (ptd_val (pd_isi (T := "tuple") rfl m_isinstance rfl m_tuple (by decide +kernel) (dv 0)))) (pdw_or1 (ptd_cmp (op_neA hr.units) lk_ne cNe_mo (pd_callB call_lenA lk_len gLen_mo rfl m_len boot_len (dv 0)) pd_int (nomark _))))) (pdss_one (pds_ret pd_bl)) pdss_nil)
    (pdss_cons (pds_forT (i := 1) PassesOwn.never rfl sc_law_is_line.nd (dv 0) (pdss_one (pds_if (ptd_not (ptd_val (pd_call h_law_whole (hr.mono (by decide)) rfl (pda_cons (dv 1) pda_nil)))) (pdss_one (pds_ret pd_bl)) pdss_nil)))
    (pdss_cons (pds_if (PDW.pt (pdw_or (ptd_cmp op_lt lk_int cInt_mo (pd_ix ix_tl lk_ix gIx_mo (dv 0) pd_int) pd_int (nomark _)) (pdw_or1 (PDW.pt (pdw_and (ptd_cmp (op_eqA hr.units) lk_eq cEq_mo (pd_ix ix_tl lk_ix gIx_mo (dv 0) pd_int) pd_int (nomark _)) (pdw_and1 (ptd_cmp op_lt lk_int cInt_mo (pd_ix ix_tl lk_ix gIx_mo (dv 0) pd_int) pd_int (nomark _)))))))) (pdss_one (pds_ret pd_bl)) pdss_nil)
    (pdss_one (pds_ret (pd_cmp (op_eqA hr.units) lk_eq cEq_mo (pd_call h_law_gcd (hr.mono (by decide)) rfl (pda_cons (pd_call h_law_gcd (hr.mono (by decide)) rfl (pda_cons (pd_ix ix_tl lk_ix gIx_mo (dv 0) pd_int) (pda_cons (pd_ix ix_tl lk_ix gIx_mo (dv 0) pd_int) pda_nil))) (pda_cons (pd_ix ix_tl lk_ix gIx_mo (dv 0) pd_int) pda_nil))) pd_int (nomark _)))))))
abbrev N_law_grounds : List Str := [("_law_making_here" : Str)]
abbrev P_law_grounds : List Str := [("_law_making_here" : Str)]
theorem sc_law_grounds : FnScope N_law_grounds P_law_grounds (defScope s_law_grounds) := ⟨rfl, rfl, rfl, by decide +kernel, rfl, by decide +kernel, by decide +kernel⟩
theorem der_law_grounds (m_list : mg "list" = none) (f : Addr) (cdv : Value) (A : Around) (outer : List Env) (s : Shared) (H : Hp) (E : XK) (hr : Room 0 (A.deeper (envOfC "_law_grounds" (defScope s_law_grounds) s.heap.objs.size f cdv))) : PDSs (bodyX P w K mg base N_law_grounds "_law_grounds" s_law_grounds f cdv A outer s H E) (defBody s_law_grounds) (t_law_grounds) :=
  (pdss_cons (pds_if (ptd_cmp (op_eqA hr.units) lk_eq cEq_mo (pd_ix ix_tl lk_ix gIx_mo (dv 0) pd_int) pd_str (nomark _)) (pdss_one (pds_ret (pd_lst pda_nil))) pdss_nil)
    (pdss_cons (pds_if (PDW.pt (pdw_or (ptd_cmp (op_eqA hr.units) lk_eq cEq_mo (pd_ix ix_tl lk_ix gIx_mo (dv 0) pd_int) pd_str (nomark _)) (pdw_or1 (ptd_cmp (op_eqA hr.units) lk_eq cEq_mo (pd_ix ix_tl lk_ix gIx_mo (dv 0) pd_int) pd_str (nomark _))))) (pdss_one (pds_ret (pd_lst (pda_cons (pd_ix ix_tl lk_ix gIx_mo (dv 0) pd_int) (pda_cons (pd_ix ix_tl lk_ix gIx_mo (dv 0) pd_int) pda_nil))))) pdss_nil)
    (pdss_one (pds_ret (pd_callTy call_list_of lk_list gList_mo rfl m_list boot_list (pd_slice (dv 0) (pdo_some pd_int) pdo_none))))))
abbrev N_law_sort : List Str := [("_law_making_here" : Str)]
abbrev P_law_sort : List Str := [("_law_making_here" : Str)]
theorem sc_law_sort : FnScope N_law_sort P_law_sort (defScope s_law_sort) := ⟨rfl, rfl, rfl, by decide +kernel, rfl, by decide +kernel, by decide +kernel⟩
theorem der_law_sort  (f : Addr) (cdv : Value) (A : Around) (outer : List Env) (s : Shared) (H : Hp) (E : XK) (hr : Room 0 (A.deeper (envOfC "_law_sort" (defScope s_law_sort) s.heap.objs.size f cdv))) : PDSs (bodyX P w K mg base N_law_sort "_law_sort" s_law_sort f cdv A outer s H E) (defBody s_law_sort) (t_law_sort) :=
  (pdss_cons (pds_if (ptd_cmp op_in_seq lk_in cIn_mo (pd_ix ix_tl lk_ix gIx_mo (dv 0) pd_int) (pd_lst (pda_cons pd_str (pda_cons pd_str (pda_cons pd_str pda_nil)))) rfl) (pdss_one (pds_ret pd_str)) pdss_nil)
    (pdss_cons (pds_if (ptd_cmp op_in_seq lk_in cIn_mo (pd_ix ix_tl lk_ix gIx_mo (dv 0) pd_int) (pd_lst (pda_cons pd_str (pda_cons pd_str (pda_cons pd_str (pda_cons pd_str (pda_cons pd_str pda_nil)))))) rfl) (pdss_one (pds_ret pd_str)) pdss_nil)
    (pdss_cons (pds_if (ptd_cmp (op_eqA hr.units) lk_eq cEq_mo (pd_ix ix_tl lk_ix gIx_mo (dv 0) pd_int) pd_str (nomark _)) (pdss_one (pds_ret pd_str)) pdss_nil)
    (pdss_one (pds_ret pd_str)))))
abbrev N_law_weight : List Str := [("_law_making_here" : Str), ("_law_sorts" : Str), ("_law_heavy" : Str), ("_law_each" : Str), ("_law_name" : Str)]
abbrev P_law_weight : List Str := [("_law_making_here" : Str), ("_law_sorts" : Str), ("_law_heavy" : Str)]
theorem sc_law_weight : FnScope N_law_weight P_law_weight (defScope s_law_weight) := ⟨rfl, rfl, rfl, by decide +kernel, rfl, by decide +kernel, by decide +kernel⟩
theorem der_law_weight {c_law_grounds : Ct} (m_sum : mg "sum" = none) (h_law_grounds : Has P w K mg base 1 "_law_grounds" 1 c_law_grounds) (f : Addr) (cdv : Value) (A : Around) (outer : List Env) (s : Shared) (H : Hp) (E : XK) (hr : Room 1 (A.deeper (envOfC "_law_weight" (defScope s_law_weight) s.heap.objs.size f cdv))) : PDSs (bodyX P w K mg base N_law_weight "_law_weight" s_law_weight f cdv A outer s H E) (defBody s_law_weight) (t_law_weight c_law_grounds) :=
  (pdss_cons (pds_setLcL (i := 3) rfl sc_law_weight.nd (blkOk_by (own := [("_law_name", 4)]) (N := N_law_weight) (sc := defScope s_law_weight) (by decide +kernel)) (fun _ _ _ _ _ => pg_name (i := 4) sc_law_weight.nd rfl (Or.inl rfl)) (fun _ _ _ _ _ => pdts_nil) (fun _ _ _ _ _ => (pd_dget (hu_of hr) (dv 2) (dv 4))) (pd_call h_law_grounds (hr.mono (by decide)) rfl (pda_cons (dv 0) pda_nil)) (sw_true rfl rfl rfl (by decide +kernel)))
    (pdss_cons (pds_if (ptd_cmp (op_eqA hr.units) lk_eq cEq_mo (pd_ix ix_tl lk_ix gIx_mo (dv 0) pd_int) pd_str (nomark _)) (pdss_one (pds_ret pd_int)) pdss_nil)
    (pdss_cons (pds_if (PDW.pt (pdw_or (ptd_cmp (op_eqA hr.units) lk_eq cEq_mo (pd_ix ix_tl lk_ix gIx_mo (dv 0) pd_int) pd_str (nomark _)) (pdw_or1 (ptd_cmp (op_eqA hr.units) lk_eq cEq_mo (pd_ix ix_tl lk_ix gIx_mo (dv 0) pd_int) pd_str (nomark _))))) (pdss_one (pds_ret (pd_op op_add lk_add gAdd_mo (pd_ix ix_tl lk_ix gIx_mo (dv 3) pd_int) (pd_op op_mulW lk_mul gMul_mo pd_int (pd_ix ix_tl lk_ix gIx_mo (dv 3) pd_int))))) pdss_nil)
    (pdss_cons (pds_if (PDW.pt (pdw_and (ptd_cmp (op_eqA hr.units) lk_eq cEq_mo (pd_ix ix_tl lk_ix gIx_mo (dv 0) pd_int) pd_str (nomark _)) (pdw_and1 (ptd_cmp (op_eqA hr.units) lk_eq cEq_mo (pd_dget (hu_of hr) (dv 1) (pd_ix ix_tl lk_ix gIx_mo (dv 0) pd_int)) pd_str (nomark _))))) (pdss_one (pds_ret (pd_op op_mulW lk_mul gMul_mo pd_int (pd_op op_add lk_add gAdd_mo (pd_ix ix_tl lk_ix gIx_mo (dv 3) pd_int) (pd_ix ix_tl lk_ix gIx_mo (dv 3) pd_int))))) pdss_nil)
    (pdss_cons (pds_if (ptd_cmp (op_eqA hr.units) lk_eq cEq_mo (pd_ix ix_tl lk_ix gIx_mo (dv 0) pd_int) pd_str (nomark _)) (pdss_one (pds_ret (pd_op op_add lk_add gAdd_mo (pd_op op_mulW lk_mul gMul_mo pd_int (pd_ix ix_tl lk_ix gIx_mo (dv 3) pd_int)) (pd_ix ix_tl lk_ix gIx_mo (dv 3) pd_int)))) pdss_nil)
    (pdss_cons (pds_if (PDW.pt (pdw_or (ptd_cmp (op_eqA hr.units) lk_eq cEq_mo (pd_ix ix_tl lk_ix gIx_mo (dv 0) pd_int) pd_str (nomark _)) (pdw_or1 (ptd_cmp (op_eqA hr.units) lk_eq cEq_mo (pd_ix ix_tl lk_ix gIx_mo (dv 0) pd_int) pd_str (nomark _))))) (pdss_one (pds_ret (pd_op op_mulW lk_mul gMul_mo pd_int (pd_callB (cr_sum rfl) lk_sum gSum_mo rfl m_sum (by decide +kernel) (dv 3))))) pdss_nil)
    (pdss_one (pds_ret (pd_callB (cr_sum rfl) lk_sum gSum_mo rfl m_sum (by decide +kernel) (dv 3))))))))))
abbrev N_law_near : List Str := [("_law_one" : Str), ("_law_other" : Str), ("_law_x" : Str), ("_law_y" : Str)]
abbrev P_law_near : List Str := [("_law_one" : Str), ("_law_other" : Str)]
theorem sc_law_near : FnScope N_law_near P_law_near (defScope s_law_near) := ⟨rfl, rfl, rfl, by decide +kernel, rfl, by decide +kernel, by decide +kernel⟩
theorem der_law_near {c_law_plus : Ct} {c_law_times : Ct} {c_law_less : Ct} (h_law_plus : Has P w K mg base 1 "_law_plus" 2 c_law_plus) (h_law_times : Has P w K mg base 1 "_law_times" 2 c_law_times) (h_law_less : Has P w K mg base 1 "_law_less" 2 c_law_less) (f : Addr) (cdv : Value) (A : Around) (outer : List Env) (s : Shared) (H : Hp) (E : XK) (hr : Room 1 (A.deeper (envOfC "_law_near" (defScope s_law_near) s.heap.objs.size f cdv))) : PDSs (bodyX P w K mg base N_law_near "_law_near" s_law_near f cdv A outer s H E) (defBody s_law_near) (t_law_near c_law_plus c_law_times c_law_less) :=
  (pdss_cons (pds_set (i := 2) sc_law_near.nd (pd_call h_law_less (hr.mono (by decide)) rfl (pda_cons (pd_ix ix_tl lk_ix gIx_mo (dv 0) pd_int) (pda_cons (pd_ix ix_tl lk_ix gIx_mo (dv 1) pd_int) pda_nil))))
    (pdss_cons (pds_set (i := 3) sc_law_near.nd (pd_call h_law_less (hr.mono (by decide)) rfl (pda_cons (pd_ix ix_tl lk_ix gIx_mo (dv 0) pd_int) (pda_cons (pd_ix ix_tl lk_ix gIx_mo (dv 1) pd_int) pda_nil))))
    (pdss_one (pds_ret (pd_call h_law_plus (hr.mono (by decide)) rfl (pda_cons (pd_call h_law_times (hr.mono (by decide)) rfl (pda_cons (dv 2) (pda_cons (dv 2) pda_nil))) (pda_cons (pd_call h_law_times (hr.mono (by decide)) rfl (pda_cons (dv 3) (pda_cons (dv 3) pda_nil))) pda_nil)))))))
abbrev N_law_off : List Str := [("_law_place_here" : Str), ("_law_line" : Str), ("_law_x" : Str), ("_law_y" : Str)]
abbrev P_law_off : List Str := [("_law_place_here" : Str), ("_law_line" : Str)]
theorem sc_law_off : FnScope N_law_off P_law_off (defScope s_law_off) := ⟨rfl, rfl, rfl, by decide +kernel, rfl, by decide +kernel, by decide +kernel⟩
theorem der_law_off {c_law_less : Ct} {c_law_plus : Ct} {c_law_times : Ct} (h_law_less : Has P w K mg base 1 "_law_less" 2 c_law_less) (h_law_plus : Has P w K mg base 1 "_law_plus" 2 c_law_plus) (h_law_times : Has P w K mg base 1 "_law_times" 2 c_law_times) (f : Addr) (cdv : Value) (A : Around) (outer : List Env) (s : Shared) (H : Hp) (E : XK) (hr : Room 1 (A.deeper (envOfC "_law_off" (defScope s_law_off) s.heap.objs.size f cdv))) : PDSs (bodyX P w K mg base N_law_off "_law_off" s_law_off f cdv A outer s H E) (defBody s_law_off) (t_law_off c_law_less c_law_plus c_law_times) :=
  (pdss_cons (pds_set (i := 2) sc_law_off.nd (pd_call h_law_times (hr.mono (by decide)) rfl (pda_cons (pd_tup (pda_cons (pd_ix ix_tl lk_ix gIx_mo (dv 1) pd_int) (pda_cons pd_int pda_nil))) (pda_cons (pd_ix ix_tl lk_ix gIx_mo (dv 0) pd_int) pda_nil))))
    (pdss_cons (pds_set (i := 3) sc_law_off.nd (pd_call h_law_times (hr.mono (by decide)) rfl (pda_cons (pd_tup (pda_cons (pd_ix ix_tl lk_ix gIx_mo (dv 1) pd_int) (pda_cons pd_int pda_nil))) (pda_cons (pd_ix ix_tl lk_ix gIx_mo (dv 0) pd_int) pda_nil))))
    (pdss_one (pds_ret (pd_call h_law_less (hr.mono (by decide)) rfl (pda_cons (pd_call h_law_plus (hr.mono (by decide)) rfl (pda_cons (dv 2) (pda_cons (dv 3) pda_nil))) (pda_cons (pd_tup (pda_cons (pd_ix ix_tl lk_ix gIx_mo (dv 1) pd_int) (pda_cons pd_int pda_nil))) pda_nil)))))))
abbrev N_law_so : List Str := [("_law_making_here" : Str), ("_law_at" : Str), ("_law_g" : Str), ("_law_square" : Str), ("_law_name" : Str), ("_law_p" : Str), ("_law_k" : Str)]
abbrev P_law_so : List Str := [("_law_making_here" : Str), ("_law_at" : Str)]
theorem sc_law_so : FnScope N_law_so P_law_so (defScope s_law_so) := ⟨rfl, rfl, rfl, by decide +kernel, rfl, by decide +kernel, by decide +kernel⟩
theorem der_law_so {c_law_even : Ct} {c_law_near : Ct} {c_law_det : Ct} {c_law_plus : Ct} {c_law_times : Ct} {c_law_grounds : Ct} (h_law_even : Has P w K mg base 1 "_law_even" 2 c_law_even) (h_law_near : Has P w K mg base 2 "_law_near" 2 c_law_near) (h_law_det : Has P w K mg base 6 "_law_det" 1 c_law_det) (m_range : mg "range" = none) (h_law_plus : Has P w K mg base 1 "_law_plus" 2 c_law_plus) (h_law_times : Has P w K mg base 1 "_law_times" 2 c_law_times) (h_law_grounds : Has P w K mg base 1 "_law_grounds" 1 c_law_grounds) (f : Addr) (cdv : Value) (A : Around) (outer : List Env) (s : Shared) (H : Hp) (E : XK) (hr : Room 6 (A.deeper (envOfC "_law_so" (defScope s_law_so) s.heap.objs.size f cdv))) : PDSs (bodyX P w K mg base N_law_so "_law_so" s_law_so f cdv A outer s H E) (defBody s_law_so) (t_law_so c_law_even c_law_near c_law_det c_law_plus c_law_times c_law_grounds) :=
  (pdss_cons (pds_set (i := 2) sc_law_so.nd (pd_lcL rfl sc_law_so.nd (blkOk_by (own := [("_law_name", 4)]) (N := N_law_so) (sc := defScope s_law_so) (by decide +kernel)) (fun _ _ _ _ _ => pg_name (i := 4) sc_law_so.nd rfl (Or.inl rfl)) (fun _ _ _ _ _ => pdts_nil) (fun _ _ _ _ _ => (pd_slice (pd_dget (hu_of hr) (dv 1) (dv 4)) (pdo_some pd_int) pdo_none)) (pd_call h_law_grounds (hr.mono (by decide)) rfl (pda_cons (dv 0) pda_nil))))
    (pdss_cons (pds_if (ptd_cmp (op_eqA hr.units) lk_eq cEq_mo (pd_ix ix_tl lk_ix gIx_mo (dv 0) pd_int) pd_str (nomark _)) (pdss_one (pds_ret (pd_cmp (op_eqA hr.units) lk_eq cEq_mo (pd_ix ix_tl lk_ix gIx_mo (pd_call h_law_det (hr.mono (by decide)) rfl (pda_cons (pd_lcL rfl sc_law_so.nd (blkOk_by (own := [("_law_p", 5)]) (N := N_law_so) (sc := defScope s_law_so) (by decide +kernel)) (fun _ _ _ _ _ => pg_name (i := 5) sc_law_so.nd rfl (Or.inl rfl)) (fun _ _ _ _ _ => pdts_nil) (fun _ _ _ _ _ => (pd_lst (pda_cons (pd_ix ix_tl lk_ix gIx_mo (dv 5) pd_int) (pda_cons (pd_ix ix_tl lk_ix gIx_mo (dv 5) pd_int) (pda_cons (pd_tup (pda_cons pd_int (pda_cons pd_int pda_nil))) pda_nil))))) (dv 2)) pda_nil)) pd_int) pd_int (nomark _)))) pdss_nil)
    (pdss_cons (pds_if (ptd_cmp (op_eqA hr.units) lk_eq cEq_mo (pd_ix ix_tl lk_ix gIx_mo (dv 0) pd_int) pd_str (nomark _)) (pdss_cons (pds_set (i := 3) sc_law_so.nd (pd_lcL rfl sc_law_so.nd (blkOk_by (own := [("_law_p", 5)]) (N := N_law_so) (sc := defScope s_law_so) (by decide +kernel)) (fun _ _ _ _ _ => pg_name (i := 5) sc_law_so.nd rfl (Or.inl rfl)) (fun _ _ _ _ _ => pdts_nil) (fun _ _ _ _ _ => (pd_call h_law_plus (hr.mono (by decide)) rfl (pda_cons (pd_call h_law_times (hr.mono (by decide)) rfl (pda_cons (pd_ix ix_tl lk_ix gIx_mo (dv 5) pd_int) (pda_cons (pd_ix ix_tl lk_ix gIx_mo (dv 5) pd_int) pda_nil))) (pda_cons (pd_call h_law_times (hr.mono (by decide)) rfl (pda_cons (pd_ix ix_tl lk_ix gIx_mo (dv 5) pd_int) (pda_cons (pd_ix ix_tl lk_ix gIx_mo (dv 5) pd_int) pda_nil))) pda_nil)))) (dv 2)))
    (pdss_one (pds_ret (pd_cmp (op_eqA hr.units) lk_eq cEq_mo (pd_ix ix_tl lk_ix gIx_mo (pd_call h_law_det (hr.mono (by decide)) rfl (pda_cons (pd_lcN rfl sc_law_so.nd (blkOk_by (own := [("_law_k", 6)]) (N := N_law_so) (sc := defScope s_law_so) (by decide +kernel)) (fun _ _ _ _ _ => pg_name (i := 6) sc_law_so.nd rfl (Or.inl rfl)) (fun _ _ _ _ _ => pdts_nil) (fun _ _ _ _ _ => (pd_lst (pda_cons (pd_ix ix_tl lk_ix gIx_mo (dv 3) (dv 6)) (pda_cons (pd_ix ix_tl lk_ix gIx_mo (pd_ix ix_tl lk_ix gIx_mo (dv 2) (dv 6)) pd_int) (pda_cons (pd_ix ix_tl lk_ix gIx_mo (pd_ix ix_tl lk_ix gIx_mo (dv 2) (dv 6)) pd_int) (pda_cons (pd_tup (pda_cons pd_int (pda_cons pd_int pda_nil))) pda_nil)))))) rfl m_range pd_int) pda_nil)) pd_int) pd_int (nomark _))))) pdss_nil)
    (pdss_cons (pds_if (ptd_cmp (op_eqA hr.units) lk_eq cEq_mo (pd_ix ix_tl lk_ix gIx_mo (dv 0) pd_int) pd_str (nomark _)) (pdss_one (pds_ret (pd_call h_law_even (hr.mono (by decide)) rfl (pda_cons (pd_call h_law_near (hr.mono (by decide)) rfl (pda_cons (pd_ix ix_tl lk_ix gIx_mo (dv 2) pd_int) (pda_cons (pd_ix ix_tl lk_ix gIx_mo (dv 2) pd_int) pda_nil))) (pda_cons (pd_call h_law_near (hr.mono (by decide)) rfl (pda_cons (pd_ix ix_tl lk_ix gIx_mo (dv 2) pd_int) (pda_cons (pd_ix ix_tl lk_ix gIx_mo (dv 2) pd_int) pda_nil))) pda_nil))))) pdss_nil)
    (pdss_cons (pds_if (ptd_cmp (op_eqA hr.units) lk_eq cEq_mo (pd_ix ix_tl lk_ix gIx_mo (dv 0) pd_int) pd_str (nomark _)) (pdss_one (pds_ret (pd_cmp (op_eqA hr.units) lk_eq cEq_mo (pd_op op_mulW lk_mul gMul_mo (pd_ix ix_tl lk_ix gIx_mo (pd_ix ix_tl lk_ix gIx_mo (dv 2) pd_int) pd_int) (pd_ix ix_tl lk_ix gIx_mo (pd_ix ix_tl lk_ix gIx_mo (dv 2) pd_int) pd_int)) (pd_op op_mulW lk_mul gMul_mo (pd_ix ix_tl lk_ix gIx_mo (pd_ix ix_tl lk_ix gIx_mo (dv 2) pd_int) pd_int) (pd_ix ix_tl lk_ix gIx_mo (pd_ix ix_tl lk_ix gIx_mo (dv 2) pd_int) pd_int)) (nomark _)))) pdss_nil)
    (pdss_one (pds_ret (pd_cmp (op_eqA hr.units) lk_eq cEq_mo (pd_op op_add lk_add gAdd_mo (pd_op op_mulW lk_mul gMul_mo (pd_ix ix_tl lk_ix gIx_mo (pd_ix ix_tl lk_ix gIx_mo (dv 2) pd_int) pd_int) (pd_ix ix_tl lk_ix gIx_mo (pd_ix ix_tl lk_ix gIx_mo (dv 2) pd_int) pd_int)) (pd_op op_mulW lk_mul gMul_mo (pd_ix ix_tl lk_ix gIx_mo (pd_ix ix_tl lk_ix gIx_mo (dv 2) pd_int) pd_int) (pd_ix ix_tl lk_ix gIx_mo (pd_ix ix_tl lk_ix gIx_mo (dv 2) pd_int) pd_int))) pd_int (nomark _)))))))))
abbrev N_law_root : List Str := [("_law_number" : Str), ("_law_low_here" : Str), ("_law_high" : Str), ("_law_amid" : Str)]
abbrev P_law_root : List Str := [("_law_number" : Str)]
theorem sc_law_root : FnScope N_law_root P_law_root (defScope s_law_root) := ⟨rfl, rfl, rfl, by decide +kernel, rfl, by decide +kernel, by decide +kernel⟩
theorem der_law_root  (f : Addr) (cdv : Value) (A : Around) (outer : List Env) (s : Shared) (H : Hp) (E : XK) (hr : Room 0 (A.deeper (envOfC "_law_root" (defScope s_law_root) s.heap.objs.size f cdv))) : PDSs (bodyX P w K mg base N_law_root "_law_root" s_law_root f cdv A outer s H E) (defBody s_law_root) (t_law_root) :=
  (pdss_cons (pds_set (i := 1) sc_law_root.nd pd_int)
    (pdss_cons (pds_set (i := 2) sc_law_root.nd (pd_op op_add lk_add gAdd_mo (dv 0) pd_int))
    (pdss_cons (pds_while PassesOwn.never (ptd_cmp op_gt lk_int cInt_mo (pd_op op_sub lk_sub gSub_mo (dv 2) (dv 1)) pd_int (nomark _)) (pdss_cons (pds_set (i := 3) sc_law_root.nd (pd_op op_fdivX lk_fdiv gFdiv_mo (pd_op op_add lk_add gAdd_mo (dv 1) (dv 2)) pd_int))
    (pdss_one (pds_if (ptd_cmp op_le lk_int cInt_mo (pd_op op_mulW lk_mul gMul_mo (dv 3) (dv 3)) (dv 0) (nomark _)) (pdss_one (pds_set (i := 1) sc_law_root.nd (dv 3))) (pdss_one (pds_set (i := 2) sc_law_root.nd (dv 3)))))))
    (pdss_one (pds_ret (dv 1))))))
abbrev N_law_chord : List Str := [("_law_u" : Str), ("_law_ring" : Str), ("_law_x" : Str), ("_law_y" : Str), ("_law_d" : Str), ("_law_e" : Str), ("_law_c" : Str), ("_law_part" : Str)]
abbrev P_law_chord : List Str := [("_law_u" : Str), ("_law_ring" : Str)]
theorem sc_law_chord : FnScope N_law_chord P_law_chord (defScope s_law_chord) := ⟨rfl, rfl, rfl, by decide +kernel, rfl, by decide +kernel, by decide +kernel⟩
theorem der_law_chord {c_law_low : Ct} {c_law_plus : Ct} {c_law_less : Ct} {c_law_times : Ct} (h_law_low : Has P w K mg base 2 "_law_low" 2 c_law_low) (h_law_plus : Has P w K mg base 1 "_law_plus" 2 c_law_plus) (h_law_less : Has P w K mg base 1 "_law_less" 2 c_law_less) (h_law_times : Has P w K mg base 1 "_law_times" 2 c_law_times) (f : Addr) (cdv : Value) (A : Around) (outer : List Env) (s : Shared) (H : Hp) (E : XK) (hr : Room 2 (A.deeper (envOfC "_law_chord" (defScope s_law_chord) s.heap.objs.size f cdv))) : PDSs (bodyX P w K mg base N_law_chord "_law_chord" s_law_chord f cdv A outer s H E) (defBody s_law_chord) (t_law_chord c_law_low c_law_plus c_law_less c_law_times) :=
  (pdss_cons (pds_if (ptd_cmp (op_eqA hr.units) lk_eq cEq_mo (pd_ix ix_tl lk_ix gIx_mo (dv 0) pd_int) pd_str (nomark _)) (pdss_one (pds_ret (pd_lcT rfl sc_law_chord.nd (blkOk_by (own := [("_law_part", 7)]) (N := N_law_chord) (sc := defScope s_law_chord) (by decide +kernel)) (fun _ _ _ _ _ => pg_name (i := 7) sc_law_chord.nd rfl (Or.inl rfl)) (fun _ _ _ _ _ => pdts_nil) (fun _ _ _ _ _ => (pd_tup (pda_cons (dv 7) (pda_cons pd_int pda_nil)))) (pd_slice (dv 0) (pdo_some pd_int) pdo_none)))) pdss_nil)
    (pdss_cons (pds_set (i := 2) sc_law_chord.nd (pd_call h_law_less (hr.mono (by decide)) rfl (pda_cons (pd_ix ix_tl lk_ix gIx_mo (dv 1) pd_int) (pda_cons (pd_ix ix_tl lk_ix gIx_mo (dv 0) pd_int) pda_nil))))
    (pdss_cons (pds_set (i := 3) sc_law_chord.nd (pd_call h_law_less (hr.mono (by decide)) rfl (pda_cons (pd_ix ix_tl lk_ix gIx_mo (dv 1) pd_int) (pda_cons (pd_ix ix_tl lk_ix gIx_mo (dv 0) pd_int) pda_nil))))
    (pdss_cons (pds_set (i := 4) sc_law_chord.nd (pd_call h_law_plus (hr.mono (by decide)) rfl (pda_cons (pd_call h_law_times (hr.mono (by decide)) rfl (pda_cons (pd_ix ix_tl lk_ix gIx_mo (dv 1) pd_int) (pda_cons (pd_ix ix_tl lk_ix gIx_mo (dv 1) pd_int) pda_nil))) (pda_cons (pd_call h_law_times (hr.mono (by decide)) rfl (pda_cons (pd_ix ix_tl lk_ix gIx_mo (dv 1) pd_int) (pda_cons (pd_ix ix_tl lk_ix gIx_mo (dv 1) pd_int) pda_nil))) pda_nil))))
    (pdss_cons (pds_set (i := 5) sc_law_chord.nd (pd_call h_law_plus (hr.mono (by decide)) rfl (pda_cons (pd_call h_law_times (hr.mono (by decide)) rfl (pda_cons (pd_ix ix_tl lk_ix gIx_mo (dv 0) pd_int) (pda_cons (pd_ix ix_tl lk_ix gIx_mo (dv 0) pd_int) pda_nil))) (pda_cons (pd_call h_law_times (hr.mono (by decide)) rfl (pda_cons (pd_ix ix_tl lk_ix gIx_mo (dv 0) pd_int) (pda_cons (pd_ix ix_tl lk_ix gIx_mo (dv 0) pd_int) pda_nil))) pda_nil))))
    (pdss_cons (pds_set (i := 6) sc_law_chord.nd (pd_call h_law_plus (hr.mono (by decide)) rfl (pda_cons (pd_call h_law_less (hr.mono (by decide)) rfl (pda_cons (pd_ix ix_tl lk_ix gIx_mo (dv 0) pd_int) (pda_cons (pd_ix ix_tl lk_ix gIx_mo (dv 1) pd_int) pda_nil))) (pda_cons (pd_call h_law_less (hr.mono (by decide)) rfl (pda_cons (dv 4) (pda_cons (dv 5) pda_nil))) pda_nil))))
    (pdss_one (pds_ret (pd_lst (pda_cons (pd_call h_law_low (hr.mono (by decide)) rfl (pda_cons (pd_op op_mulW lk_mul gMul_mo pd_int (pd_ix ix_tl lk_ix gIx_mo (dv 2) pd_int)) (pda_cons (pd_ix ix_tl lk_ix gIx_mo (dv 2) pd_int) pda_nil))) (pda_cons (pd_call h_law_low (hr.mono (by decide)) rfl (pda_cons (pd_op op_mulW lk_mul gMul_mo pd_int (pd_ix ix_tl lk_ix gIx_mo (dv 3) pd_int)) (pda_cons (pd_ix ix_tl lk_ix gIx_mo (dv 3) pd_int) pda_nil))) (pda_cons (pd_call h_law_low (hr.mono (by decide)) rfl (pda_cons (pd_ix ix_tl lk_ix gIx_mo (dv 6) pd_int) (pda_cons (pd_ix ix_tl lk_ix gIx_mo (dv 6) pd_int) pda_nil))) pda_nil))))))))))))
abbrev N_law_parts : List Str := [("_law_u" : Str), ("_law_ring" : Str), ("_law_e" : Str), ("_law_n" : Str), ("_law_a" : Str), ("_law_b" : Str), ("_law_c" : Str)]
abbrev P_law_parts : List Str := [("_law_u" : Str), ("_law_ring" : Str)]
theorem sc_law_parts : FnScope N_law_parts P_law_parts (defScope s_law_parts) := ⟨rfl, rfl, rfl, by decide +kernel, rfl, by decide +kernel, by decide +kernel⟩
theorem der_law_parts {c_law_low : Ct} {c_law_plus : Ct} {c_law_times : Ct} {c_law_less : Ct} {c_law_chord : Ct} (h_law_low : Has P w K mg base 2 "_law_low" 2 c_law_low) (h_law_plus : Has P w K mg base 1 "_law_plus" 2 c_law_plus) (h_law_times : Has P w K mg base 1 "_law_times" 2 c_law_times) (h_law_less : Has P w K mg base 1 "_law_less" 2 c_law_less) (h_law_chord : Has P w K mg base 3 "_law_chord" 2 c_law_chord) (f : Addr) (cdv : Value) (A : Around) (outer : List Env) (s : Shared) (H : Hp) (E : XK) (hr : Room 3 (A.deeper (envOfC "_law_parts" (defScope s_law_parts) s.heap.objs.size f cdv))) : PDSs (bodyX P w K mg base N_law_parts "_law_parts" s_law_parts f cdv A outer s H E) (defBody s_law_parts) (t_law_parts c_law_low c_law_plus c_law_times c_law_less c_law_chord) :=
  (pdss_cons (pds_unpL (is := [4, 5, 6]) rfl (pgs_cons (pg_name (i := 4) sc_law_parts.nd rfl (Or.inl rfl)) (pgs_cons (pg_name (i := 5) sc_law_parts.nd rfl (Or.inl rfl)) (pgs_cons (pg_name (i := 6) sc_law_parts.nd rfl (Or.inl rfl)) pgs_nil))) (pd_call h_law_chord (hr.mono (by decide)) rfl (pda_cons (dv 0) (pda_cons (dv 1) pda_nil))))
    (pdss_cons (pds_set (i := 2) sc_law_parts.nd (pd_call h_law_less (hr.mono (by decide)) rfl (pda_cons (dv 6) (pda_cons (pd_call h_law_plus (hr.mono (by decide)) rfl (pda_cons (pd_call h_law_times (hr.mono (by decide)) rfl (pda_cons (dv 4) (pda_cons (pd_ix ix_tl lk_ix gIx_mo (dv 1) pd_int) pda_nil))) (pda_cons (pd_call h_law_times (hr.mono (by decide)) rfl (pda_cons (dv 5) (pda_cons (pd_ix ix_tl lk_ix gIx_mo (dv 1) pd_int) pda_nil))) pda_nil))) pda_nil))))
    (pdss_cons (pds_set (i := 3) sc_law_parts.nd (pd_call h_law_plus (hr.mono (by decide)) rfl (pda_cons (pd_call h_law_times (hr.mono (by decide)) rfl (pda_cons (dv 4) (pda_cons (dv 4) pda_nil))) (pda_cons (pd_call h_law_times (hr.mono (by decide)) rfl (pda_cons (dv 5) (pda_cons (dv 5) pda_nil))) pda_nil))))
    (pdss_one (pds_ret (pd_tup (pda_cons (dv 4) (pda_cons (dv 5) (pda_cons (pd_call h_law_low (hr.mono (by decide)) rfl (pda_cons (pd_ix ix_tl lk_ix gIx_mo (dv 2) pd_int) (pda_cons (pd_ix ix_tl lk_ix gIx_mo (dv 2) pd_int) pda_nil))) (pda_cons (pd_call h_law_low (hr.mono (by decide)) rfl (pda_cons (pd_ix ix_tl lk_ix gIx_mo (dv 3) pd_int) (pda_cons (pd_ix ix_tl lk_ix gIx_mo (dv 3) pd_int) pda_nil))) pda_nil))))))))))
abbrev N_law_fail : List Str := [("_law_making_here" : Str), ("_law_at" : Str), ("_law_g" : Str), ("_law_d" : Str), ("_law_a" : Str), ("_law_b" : Str), ("_law_e" : Str), ("_law_n" : Str), ("_law_name" : Str)]
abbrev P_law_fail : List Str := [("_law_making_here" : Str), ("_law_at" : Str)]
theorem sc_law_fail : FnScope N_law_fail P_law_fail (defScope s_law_fail) := ⟨rfl, rfl, rfl, by decide +kernel, rfl, by decide +kernel, by decide +kernel⟩
theorem der_law_fail {c_law_root : Ct} {c_law_low : Ct} {c_law_less : Ct} {c_law_times : Ct} {c_law_parts : Ct} {c_law_grounds : Ct} (h_law_root : Has P w K mg base 1 "_law_root" 1 c_law_root) (h_law_low : Has P w K mg base 2 "_law_low" 2 c_law_low) (h_law_less : Has P w K mg base 1 "_law_less" 2 c_law_less) (h_law_times : Has P w K mg base 1 "_law_times" 2 c_law_times) (h_law_parts : Has P w K mg base 4 "_law_parts" 2 c_law_parts) (m_int : mg "int" = none) (h_law_grounds : Has P w K mg base 1 "_law_grounds" 1 c_law_grounds) (f : Addr) (cdv : Value) (A : Around) (outer : List Env) (s : Shared) (H : Hp) (E : XK) (hr : Room 4 (A.deeper (envOfC "_law_fail" (defScope s_law_fail) s.heap.objs.size f cdv))) : PDSs (bodyX P w K mg base N_law_fail "_law_fail" s_law_fail f cdv A outer s H E) (defBody s_law_fail) (t_law_fail c_law_root c_law_low c_law_less c_law_times c_law_parts c_law_grounds) :=
  (pdss_cons (pds_setLcL (i := 2) rfl sc_law_fail.nd (blkOk_by (own := [("_law_name", 8)]) (N := N_law_fail) (sc := defScope s_law_fail) (by decide +kernel)) (fun _ _ _ _ _ => pg_name (i := 8) sc_law_fail.nd rfl (Or.inl rfl)) (fun _ _ _ _ _ => pdts_nil) (fun _ _ _ _ _ => (pd_dget (hu_of hr) (dv 1) (dv 8))) (pd_call h_law_grounds (hr.mono (by decide)) rfl (pda_cons (dv 0) pda_nil)) (sw_true rfl rfl rfl (by decide +kernel)))
    (pdss_cons (pds_if (PDW.pt (pdw_or (ptd_cmp (op_eqA hr.units) lk_eq cEq_mo (pd_ix ix_tl lk_ix gIx_mo (dv 0) pd_int) pd_str (nomark _)) (pdw_or1 (ptd_cmp (op_eqA hr.units) lk_eq cEq_mo (pd_ix ix_tl lk_ix gIx_mo (dv 0) pd_int) pd_str (nomark _))))) (pdss_one (pds_ret (pd_ix ix_tl lk_ix gIx_mo (pd_lst (pda_cons pd_str (pda_cons pd_str pda_nil))) (pd_callTy call_int1 lk_int1 gInt_mo rfl m_int boot_int (pd_cmp (op_eqA hr.units) lk_eq cEq_mo (pd_ix ix_tl lk_ix gIx_mo (dv 2) pd_int) (pd_ix ix_tl lk_ix gIx_mo (dv 2) pd_int) (nomark _)))))) pdss_nil)
    (pdss_cons (pds_if (ptd_cmp (op_eqA hr.units) lk_eq cEq_mo (pd_ix ix_tl lk_ix gIx_mo (dv 0) pd_int) pd_str (nomark _)) (pdss_one (pds_ret (pd_ix ix_tl lk_ix gIx_mo (pd_lst (pda_cons pd_str (pda_cons pd_str pda_nil))) (pd_callTy call_int1 lk_int1 gInt_mo rfl m_int boot_int (pd_cmp (op_eqA hr.units) lk_eq cEq_mo (pd_op op_mulW lk_mul gMul_mo (pd_ix ix_tl lk_ix gIx_mo (pd_ix ix_tl lk_ix gIx_mo (dv 2) pd_int) pd_int) (pd_ix ix_tl lk_ix gIx_mo (pd_ix ix_tl lk_ix gIx_mo (dv 2) pd_int) pd_int)) (pd_op op_mulW lk_mul gMul_mo (pd_ix ix_tl lk_ix gIx_mo (pd_ix ix_tl lk_ix gIx_mo (dv 2) pd_int) pd_int) (pd_ix ix_tl lk_ix gIx_mo (pd_ix ix_tl lk_ix gIx_mo (dv 2) pd_int) pd_int)) (nomark _)))))) pdss_nil)
    (pdss_cons (pds_if (ptd_cmp (op_neA hr.units) lk_ne cNe_mo (pd_ix ix_tl lk_ix gIx_mo (dv 0) pd_int) pd_str (nomark _)) (pdss_one (pds_ret pd_str)) pdss_nil)
    (pdss_cons (pds_if (PDW.pt (pdw_and (ptd_cmp (op_eqA hr.units) lk_eq cEq_mo (pd_ix ix_tl lk_ix gIx_mo (pd_ix ix_tl lk_ix gIx_mo (dv 2) pd_int) pd_int) pd_str (nomark _)) (pdw_and1 (ptd_cmp (op_eqA hr.units) lk_eq cEq_mo (pd_slice (pd_ix ix_tl lk_ix gIx_mo (dv 2) pd_int) (pdo_some pd_int) (pdo_some pd_int)) (pd_slice (pd_ix ix_tl lk_ix gIx_mo (dv 2) pd_int) (pdo_some pd_int) (pdo_some pd_int)) (nomark _))))) (pdss_one (pds_ret pd_str)) pdss_nil)
    (pdss_cons (pds_unp (is := [4, 5, 6, 7]) rfl (pgs_cons (pg_name (i := 4) sc_law_fail.nd rfl (Or.inl rfl)) (pgs_cons (pg_name (i := 5) sc_law_fail.nd rfl (Or.inl rfl)) (pgs_cons (pg_name (i := 6) sc_law_fail.nd rfl (Or.inl rfl)) (pgs_cons (pg_name (i := 7) sc_law_fail.nd rfl (Or.inl rfl)) pgs_nil)))) (pd_call h_law_parts (hr.mono (by decide)) rfl (pda_cons (pd_ix ix_tl lk_ix gIx_mo (dv 2) pd_int) (pda_cons (pd_ix ix_tl lk_ix gIx_mo (dv 2) pd_int) pda_nil))))
    (pdss_cons (pds_set (i := 3) sc_law_fail.nd (pd_call h_law_less (hr.mono (by decide)) rfl (pda_cons (pd_call h_law_times (hr.mono (by decide)) rfl (pda_cons (pd_ix ix_tl lk_ix gIx_mo (pd_ix ix_tl lk_ix gIx_mo (dv 2) pd_int) pd_int) (pda_cons (dv 7) pda_nil))) (pda_cons (pd_call h_law_times (hr.mono (by decide)) rfl (pda_cons (dv 6) (pda_cons (dv 6) pda_nil))) pda_nil))))
    (pdss_cons (pds_set (i := 3) sc_law_fail.nd (pd_call h_law_low (hr.mono (by decide)) rfl (pda_cons (pd_ix ix_tl lk_ix gIx_mo (dv 3) pd_int) (pda_cons (pd_ix ix_tl lk_ix gIx_mo (dv 3) pd_int) pda_nil))))
    (pdss_cons (pds_if (ptd_cmp op_lt lk_int cInt_mo (pd_ix ix_tl lk_ix gIx_mo (dv 3) pd_int) pd_int (nomark _)) (pdss_one (pds_ret pd_str)) pdss_nil)
    (pdss_cons (pds_if (PDW.pt (pdw_and (ptd_cmp (op_eqA hr.units) lk_eq cEq_mo (pd_op op_powX lk_pow gPow_mo (pd_call h_law_root (hr.mono (by decide)) rfl (pda_cons (pd_ix ix_tl lk_ix gIx_mo (dv 3) pd_int) pda_nil)) pd_int) (pd_ix ix_tl lk_ix gIx_mo (dv 3) pd_int) (nomark _)) (pdw_and1 (ptd_cmp (op_eqA hr.units) lk_eq cEq_mo (pd_op op_powX lk_pow gPow_mo (pd_call h_law_root (hr.mono (by decide)) rfl (pda_cons (pd_ix ix_tl lk_ix gIx_mo (dv 3) pd_int) pda_nil)) pd_int) (pd_ix ix_tl lk_ix gIx_mo (dv 3) pd_int) (nomark _))))) (pdss_one (pds_ret pd_str)) pdss_nil)
    (pdss_one (pds_ret pd_str))))))))))))
abbrev N_law_first : List Str := [("_law_m" : Str), ("_law_u" : Str), ("_law_ring" : Str), ("_law_part" : Str), ("_law_x" : Str), ("_law_y" : Str), ("_law_a" : Str), ("_law_b" : Str), ("_law_e" : Str), ("_law_n" : Str)]
abbrev P_law_first : List Str := [("_law_m" : Str), ("_law_u" : Str), ("_law_ring" : Str)]
theorem sc_law_first : FnScope N_law_first P_law_first (defScope s_law_first) := ⟨rfl, rfl, rfl, by decide +kernel, rfl, by decide +kernel, by decide +kernel⟩
theorem der_law_first {c_law_less : Ct} {c_law_plus : Ct} {c_law_times : Ct} {c_law_parts : Ct} (m_int : mg "int" = none) (h_law_less : Has P w K mg base 1 "_law_less" 2 c_law_less) (h_law_plus : Has P w K mg base 1 "_law_plus" 2 c_law_plus) (h_law_times : Has P w K mg base 1 "_law_times" 2 c_law_times) (h_law_parts : Has P w K mg base 4 "_law_parts" 2 c_law_parts) (f : Addr) (cdv : Value) (A : Around) (outer : List Env) (s : Shared) (H : Hp) (E : XK) (hr : Room 4 (A.deeper (envOfC "_law_first" (defScope s_law_first) s.heap.objs.size f cdv))) : PDSs (bodyX P w K mg base N_law_first "_law_first" s_law_first f cdv A outer s H E) (defBody s_law_first) (t_law_first c_law_less c_law_plus c_law_times c_law_parts) :=
  (pdss_cons (pds_unp (is := [6, 7, 8, 9]) rfl (pgs_cons (pg_name (i := 6) sc_law_first.nd rfl (Or.inl rfl)) (pgs_cons (pg_name (i := 7) sc_law_first.nd rfl (Or.inl rfl)) (pgs_cons (pg_name (i := 8) sc_law_first.nd rfl (Or.inl rfl)) (pgs_cons (pg_name (i := 9) sc_law_first.nd rfl (Or.inl rfl)) pgs_nil)))) (pd_call h_law_parts (hr.mono (by decide)) rfl (pda_cons (dv 1) (pda_cons (dv 2) pda_nil))))
    (pdss_cons (pds_set (i := 3) sc_law_first.nd (pd_tup (pda_cons (pd_op op_mulW lk_mul gMul_mo (pd_ix ix_tl lk_ix gIx_mo (dv 8) pd_int) (pd_ix ix_tl lk_ix gIx_mo (dv 9) pd_int)) (pda_cons (pd_op op_mulW lk_mul gMul_mo (pd_ix ix_tl lk_ix gIx_mo (dv 8) pd_int) (pd_ix ix_tl lk_ix gIx_mo (dv 9) pd_int)) pda_nil))))
    (pdss_cons (pds_set (i := 4) sc_law_first.nd (pd_call h_law_less (hr.mono (by decide)) rfl (pda_cons (pd_ix ix_tl lk_ix gIx_mo (dv 0) pd_int) (pda_cons (pd_call h_law_plus (hr.mono (by decide)) rfl (pda_cons (pd_ix ix_tl lk_ix gIx_mo (dv 2) pd_int) (pda_cons (pd_call h_law_times (hr.mono (by decide)) rfl (pda_cons (dv 6) (pda_cons (dv 3) pda_nil))) pda_nil))) pda_nil))))
    (pdss_cons (pds_set (i := 5) sc_law_first.nd (pd_call h_law_less (hr.mono (by decide)) rfl (pda_cons (pd_ix ix_tl lk_ix gIx_mo (dv 0) pd_int) (pda_cons (pd_call h_law_plus (hr.mono (by decide)) rfl (pda_cons (pd_ix ix_tl lk_ix gIx_mo (dv 2) pd_int) (pda_cons (pd_call h_law_times (hr.mono (by decide)) rfl (pda_cons (dv 7) (pda_cons (dv 3) pda_nil))) pda_nil))) pda_nil))))
    (pdss_cons (pds_if (ptd_cmp (op_neA hr.units) lk_ne cNe_mo (pd_ix ix_tl lk_ix gIx_mo (dv 4) pd_int) pd_int (nomark _)) (pdss_one (pds_ret (pd_ix ix_tl lk_ix gIx_mo (pd_lst (pda_cons pd_int (pda_cons pd_int pda_nil))) (pd_callTy call_int1 lk_int1 gInt_mo rfl m_int boot_int (pd_cmp op_gt lk_int cInt_mo (pd_ix ix_tl lk_ix gIx_mo (dv 4) pd_int) pd_int (nomark _)))))) pdss_nil)
    (pdss_cons (pds_if (ptd_cmp (op_neA hr.units) lk_ne cNe_mo (pd_ix ix_tl lk_ix gIx_mo (dv 5) pd_int) pd_int (nomark _)) (pdss_one (pds_ret (pd_ix ix_tl lk_ix gIx_mo (pd_lst (pda_cons pd_int (pda_cons pd_int pda_nil))) (pd_callTy call_int1 lk_int1 gInt_mo rfl m_int boot_int (pd_cmp op_gt lk_int cInt_mo (pd_ix ix_tl lk_ix gIx_mo (dv 5) pd_int) pd_int (nomark _)))))) pdss_nil)
    (pdss_one (pds_ret pd_int))))))))
abbrev N_law_on_way : List Str := [("_law_m" : Str), ("_law_p" : Str), ("_law_q" : Str), ("_law_part" : Str), ("_law_k" : Str), ("_law_more" : Str)]
abbrev P_law_on_way : List Str := [("_law_m" : Str), ("_law_p" : Str), ("_law_q" : Str), ("_law_part" : Str)]
theorem sc_law_on_way : FnScope N_law_on_way P_law_on_way (defScope s_law_on_way) := ⟨rfl, rfl, rfl, by decide +kernel, rfl, by decide +kernel, by decide +kernel⟩
theorem der_law_on_way {c_law_even : Ct} {c_law_less : Ct} {c_law_times : Ct} (h_law_even : Has P w K mg base 1 "_law_even" 2 c_law_even) (h_law_less : Has P w K mg base 1 "_law_less" 2 c_law_less) (h_law_times : Has P w K mg base 1 "_law_times" 2 c_law_times) (m_range : mg "range" = none) (f : Addr) (cdv : Value) (A : Around) (outer : List Env) (s : Shared) (H : Hp) (E : XK) (hr : Room 1 (A.deeper (envOfC "_law_on_way" (defScope s_law_on_way) s.heap.objs.size f cdv))) : PDSs (bodyX P w K mg base N_law_on_way "_law_on_way" s_law_on_way f cdv A outer s H E) (defBody s_law_on_way) (t_law_on_way c_law_even c_law_less c_law_times) :=
  (pdss_cons (pds_forN (i := 4) PassesOwn.never rfl sc_law_on_way.nd rfl m_range pd_int (pdss_cons (pds_set (i := 5) sc_law_on_way.nd (pd_call h_law_times (hr.mono (by decide)) rfl (pda_cons (dv 3) (pda_cons (pd_call h_law_less (hr.mono (by decide)) rfl (pda_cons (pd_ix ix_tl lk_ix gIx_mo (dv 2) (dv 4)) (pda_cons (pd_ix ix_tl lk_ix gIx_mo (dv 1) (dv 4)) pda_nil))) pda_nil))))
    (pdss_one (pds_if (ptd_not (ptd_val (pd_call h_law_even (hr.mono (by decide)) rfl (pda_cons (pd_call h_law_less (hr.mono (by decide)) rfl (pda_cons (pd_ix ix_tl lk_ix gIx_mo (dv 0) (dv 4)) (pda_cons (pd_ix ix_tl lk_ix gIx_mo (dv 1) (dv 4)) pda_nil))) (pda_cons (dv 5) pda_nil))))) (pdss_one (pds_ret pd_bl)) pdss_nil))))
    (pdss_one (pds_ret pd_bl)))
abbrev N_law_point : List Str := [("_law_making_here" : Str), ("_law_m" : Str), ("_law_g" : Str), ("_law_word" : Str), ("_law_x" : Str), ("_law_y" : Str), ("_law_p" : Str), ("_law_q" : Str)]
abbrev P_law_point : List Str := [("_law_making_here" : Str), ("_law_m" : Str), ("_law_g" : Str)]
theorem sc_law_point : FnScope N_law_point P_law_point (defScope s_law_point) := ⟨rfl, rfl, rfl, by decide +kernel, rfl, by decide +kernel, by decide +kernel⟩
theorem der_law_point {c_law_off : Ct} {c_law_plus : Ct} {c_law_even : Ct} {c_law_times : Ct} {c_law_less : Ct} {c_law_on_way : Ct} (h_law_off : Has P w K mg base 2 "_law_off" 2 c_law_off) (h_law_plus : Has P w K mg base 1 "_law_plus" 2 c_law_plus) (h_law_even : Has P w K mg base 1 "_law_even" 2 c_law_even) (h_law_times : Has P w K mg base 1 "_law_times" 2 c_law_times) (h_law_less : Has P w K mg base 1 "_law_less" 2 c_law_less) (h_law_on_way : Has P w K mg base 2 "_law_on_way" 4 c_law_on_way) (f : Addr) (cdv : Value) (A : Around) (outer : List Env) (s : Shared) (H : Hp) (E : XK) (hr : Room 2 (A.deeper (envOfC "_law_point" (defScope s_law_point) s.heap.objs.size f cdv))) : PDSs (bodyX P w K mg base N_law_point "_law_point" s_law_point f cdv A outer s H E) (defBody s_law_point) (t_law_point c_law_off c_law_plus c_law_even c_law_times c_law_less c_law_on_way) :=
  (pdss_cons (pds_unpL (is := [6, 7]) rfl (pgs_cons (pg_name (i := 6) sc_law_point.nd rfl (Or.inl rfl)) (pgs_cons (pg_name (i := 7) sc_law_point.nd rfl (Or.inl rfl)) pgs_nil)) (dv 2))
    (pdss_cons (pds_set (i := 3) sc_law_point.nd (pd_ix ix_tl lk_ix gIx_mo (dv 0) pd_int))
    (pdss_cons (pds_if (ptd_cmp (op_eqA hr.units) lk_eq cEq_mo (dv 3) pd_str (nomark _)) (pdss_one (pds_ret (pd_call h_law_on_way (hr.mono (by decide)) rfl (pda_cons (dv 1) (pda_cons (dv 6) (pda_cons (dv 7) (pda_cons (pd_tup (pda_cons pd_int (pda_cons pd_int pda_nil))) pda_nil))))))) pdss_nil)
    (pdss_cons (pds_if (ptd_cmp (op_eqA hr.units) lk_eq cEq_mo (dv 3) pd_str (nomark _)) (pdss_one (pds_ret (pd_call h_law_on_way (hr.mono (by decide)) rfl (pda_cons (dv 1) (pda_cons (dv 6) (pda_cons (dv 7) (pda_cons (pd_tup (pda_cons pd_int (pda_cons pd_int pda_nil))) pda_nil))))))) pdss_nil)
    (pdss_cons (pds_if (ptd_cmp (op_eqA hr.units) lk_eq cEq_mo (dv 3) pd_str (nomark _)) (pdss_one (pds_ret (pd_call h_law_on_way (hr.mono (by decide)) rfl (pda_cons (dv 1) (pda_cons (dv 6) (pda_cons (dv 7) (pda_cons (pd_ix ix_tl lk_ix gIx_mo (dv 0) pd_int) pda_nil))))))) pdss_nil)
    (pdss_cons (pds_if (ptd_cmp (op_eqA hr.units) lk_eq cEq_mo (dv 3) pd_str (nomark _)) (pdss_cons (pds_if (ptd_not (ptd_val (pd_call h_law_even (hr.mono (by decide)) rfl (pda_cons (pd_call h_law_plus (hr.mono (by decide)) rfl (pda_cons (pd_ix ix_tl lk_ix gIx_mo (dv 1) pd_int) (pda_cons (pd_ix ix_tl lk_ix gIx_mo (dv 6) pd_int) pda_nil))) (pda_cons (pd_call h_law_plus (hr.mono (by decide)) rfl (pda_cons (pd_ix ix_tl lk_ix gIx_mo (dv 7) pd_int) (pda_cons (pd_ix ix_tl lk_ix gIx_mo (dv 7) pd_int) pda_nil))) pda_nil))))) (pdss_one (pds_ret pd_bl)) pdss_nil)
    (pdss_one (pds_ret (pd_call h_law_even (hr.mono (by decide)) rfl (pda_cons (pd_call h_law_plus (hr.mono (by decide)) rfl (pda_cons (pd_ix ix_tl lk_ix gIx_mo (dv 1) pd_int) (pda_cons (pd_ix ix_tl lk_ix gIx_mo (dv 7) pd_int) pda_nil))) (pda_cons (pd_call h_law_plus (hr.mono (by decide)) rfl (pda_cons (pd_ix ix_tl lk_ix gIx_mo (dv 7) pd_int) (pda_cons (pd_ix ix_tl lk_ix gIx_mo (dv 6) pd_int) pda_nil))) pda_nil)))))) pdss_nil)
    (pdss_cons (pds_if (ptd_cmp (op_eqA hr.units) lk_eq cEq_mo (dv 3) pd_str (nomark _)) (pdss_one (pds_ret (pd_and (pd_cmp (op_eqA hr.units) lk_eq cEq_mo (pd_ix ix_tl lk_ix gIx_mo (pd_call h_law_off (hr.mono (by decide)) rfl (pda_cons (dv 1) (pda_cons (dv 6) pda_nil))) pd_int) pd_int (nomark _)) (pd_one (pd_cmp (op_eqA hr.units) lk_eq cEq_mo (pd_ix ix_tl lk_ix gIx_mo (pd_call h_law_off (hr.mono (by decide)) rfl (pda_cons (dv 1) (pda_cons (dv 7) pda_nil))) pd_int) pd_int (nomark _)))))) pdss_nil)
    (pdss_cons (pds_set (i := 4) sc_law_point.nd (pd_call h_law_less (hr.mono (by decide)) rfl (pda_cons (pd_ix ix_tl lk_ix gIx_mo (dv 6) pd_int) (pda_cons (pd_ix ix_tl lk_ix gIx_mo (dv 1) pd_int) pda_nil))))
    (pdss_cons (pds_set (i := 5) sc_law_point.nd (pd_call h_law_less (hr.mono (by decide)) rfl (pda_cons (pd_ix ix_tl lk_ix gIx_mo (dv 6) pd_int) (pda_cons (pd_ix ix_tl lk_ix gIx_mo (dv 1) pd_int) pda_nil))))
    (pdss_cons (pds_if (ptd_not (ptd_val (pd_call h_law_even (hr.mono (by decide)) rfl (pda_cons (pd_call h_law_times (hr.mono (by decide)) rfl (pda_cons (dv 4) (pda_cons (pd_tup (pda_cons (pd_ix ix_tl lk_ix gIx_mo (dv 7) pd_int) (pda_cons pd_int pda_nil))) pda_nil))) (pda_cons (pd_call h_law_times (hr.mono (by decide)) rfl (pda_cons (dv 5) (pda_cons (pd_tup (pda_cons (pd_ix ix_tl lk_ix gIx_mo (dv 7) pd_int) (pda_cons pd_int pda_nil))) pda_nil))) pda_nil))))) (pdss_one (pds_ret pd_bl)) pdss_nil)
    (pdss_cons (pds_if (ptd_cmp (op_eqA hr.units) lk_eq cEq_mo (dv 3) pd_str (nomark _)) (pdss_one (pds_ret (pd_cmp (op_eqA hr.units) lk_eq cEq_mo (pd_ix ix_tl lk_ix gIx_mo (pd_call h_law_off (hr.mono (by decide)) rfl (pda_cons (dv 1) (pda_cons (dv 7) pda_nil))) pd_int) pd_int (nomark _)))) pdss_nil)
    (pdss_cons (pds_set (i := 4) sc_law_point.nd (pd_call h_law_plus (hr.mono (by decide)) rfl (pda_cons (pd_ix ix_tl lk_ix gIx_mo (dv 6) pd_int) (pda_cons (pd_ix ix_tl lk_ix gIx_mo (dv 1) pd_int) pda_nil))))
    (pdss_cons (pds_set (i := 5) sc_law_point.nd (pd_call h_law_plus (hr.mono (by decide)) rfl (pda_cons (pd_ix ix_tl lk_ix gIx_mo (dv 6) pd_int) (pda_cons (pd_ix ix_tl lk_ix gIx_mo (dv 1) pd_int) pda_nil))))
    (pdss_one (pds_ret (pd_cmp (op_eqA hr.units) lk_eq cEq_mo (pd_ix ix_tl lk_ix gIx_mo (pd_call h_law_off (hr.mono (by decide)) rfl (pda_cons (pd_tup (pda_cons (dv 4) (pda_cons (dv 5) pda_nil))) (pda_cons (pd_tup (pda_cons (pd_ix ix_tl lk_ix gIx_mo (dv 7) pd_int) (pda_cons (pd_ix ix_tl lk_ix gIx_mo (dv 7) pd_int) (pda_cons (pd_op op_mulW lk_mul gMul_mo pd_int (pd_ix ix_tl lk_ix gIx_mo (dv 7) pd_int)) pda_nil)))) pda_nil))) pd_int) pd_int (nomark _)))))))))))))))))
abbrev N_law_line_fits : List Str := [("_law_making_here" : Str), ("_law_line" : Str), ("_law_g" : Str)]
abbrev P_law_line_fits : List Str := [("_law_making_here" : Str), ("_law_line" : Str), ("_law_g" : Str)]
theorem sc_law_line_fits : FnScope N_law_line_fits P_law_line_fits (defScope s_law_line_fits) := ⟨rfl, rfl, rfl, by decide +kernel, rfl, by decide +kernel, by decide +kernel⟩
theorem der_law_line_fits {c_law_off : Ct} {c_law_is_line : Ct} (h_law_off : Has P w K mg base 2 "_law_off" 2 c_law_off) (h_law_is_line : Has P w K mg base 2 "_law_is_line" 1 c_law_is_line) (f : Addr) (cdv : Value) (A : Around) (outer : List Env) (s : Shared) (H : Hp) (E : XK) (hr : Room 2 (A.deeper (envOfC "_law_line_fits" (defScope s_law_line_fits) s.heap.objs.size f cdv))) : PDSs (bodyX P w K mg base N_law_line_fits "_law_line_fits" s_law_line_fits f cdv A outer s H E) (defBody s_law_line_fits) (t_law_line_fits c_law_off c_law_is_line) :=
  (pdss_cons (pds_if (PDW.pt (pdw_or (ptd_not (ptd_val (pd_call h_law_is_line (hr.mono (by decide)) rfl (pda_cons (dv 1) pda_nil)))) (pdw_or1 (ptd_cmp (op_neA hr.units) lk_ne cNe_mo (pd_ix ix_tl lk_ix gIx_mo (pd_call h_law_off (hr.mono (by decide)) rfl (pda_cons (pd_ix ix_tl lk_ix gIx_mo (dv 2) pd_int) (pda_cons (dv 1) pda_nil))) pd_int) pd_int (nomark _))))) (pdss_one (pds_ret pd_bl)) pdss_nil)
    (pdss_cons (pds_if (ptd_cmp (op_eqA hr.units) lk_eq cEq_mo (pd_ix ix_tl lk_ix gIx_mo (dv 0) pd_int) pd_str (nomark _)) (pdss_one (pds_ret (pd_cmp (op_eqA hr.units) lk_eq cEq_mo (pd_ix ix_tl lk_ix gIx_mo (pd_call h_law_off (hr.mono (by decide)) rfl (pda_cons (pd_ix ix_tl lk_ix gIx_mo (dv 2) pd_int) (pda_cons (dv 1) pda_nil))) pd_int) pd_int (nomark _)))) pdss_nil)
    (pdss_cons (pds_if (ptd_cmp (op_eqA hr.units) lk_eq cEq_mo (pd_ix ix_tl lk_ix gIx_mo (dv 0) pd_int) pd_str (nomark _)) (pdss_one (pds_ret (pd_cmp (op_eqA hr.units) lk_eq cEq_mo (pd_op op_mulW lk_mul gMul_mo (pd_ix ix_tl lk_ix gIx_mo (dv 1) pd_int) (pd_ix ix_tl lk_ix gIx_mo (pd_ix ix_tl lk_ix gIx_mo (dv 2) pd_int) pd_int)) (pd_op op_mulW lk_mul gMul_mo (pd_ix ix_tl lk_ix gIx_mo (dv 1) pd_int) (pd_ix ix_tl lk_ix gIx_mo (pd_ix ix_tl lk_ix gIx_mo (dv 2) pd_int) pd_int)) (nomark _)))) pdss_nil)
    (pdss_one (pds_ret (pd_cmp (op_eqA hr.units) lk_eq cEq_mo (pd_op op_add lk_add gAdd_mo (pd_op op_mulW lk_mul gMul_mo (pd_ix ix_tl lk_ix gIx_mo (dv 1) pd_int) (pd_ix ix_tl lk_ix gIx_mo (pd_ix ix_tl lk_ix gIx_mo (dv 2) pd_int) pd_int)) (pd_op op_mulW lk_mul gMul_mo (pd_ix ix_tl lk_ix gIx_mo (dv 1) pd_int) (pd_ix ix_tl lk_ix gIx_mo (pd_ix ix_tl lk_ix gIx_mo (dv 2) pd_int) pd_int))) pd_int (nomark _)))))))
abbrev N_law_fits : List Str := [("_law_making_here" : Str), ("_law_told" : Str), ("_law_at" : Str), ("_law_sort_here" : Str), ("_law_g" : Str), ("_law_u" : Str), ("_law_ring" : Str), ("_law_name" : Str)]
abbrev P_law_fits : List Str := [("_law_making_here" : Str), ("_law_told" : Str), ("_law_at" : Str)]
theorem sc_law_fits : FnScope N_law_fits P_law_fits (defScope s_law_fits) := ⟨rfl, rfl, rfl, by decide +kernel, rfl, by decide +kernel, by decide +kernel⟩
theorem der_law_fits {c_law_first : Ct} {c_law_even : Ct} {c_law_near : Ct} {c_law_off : Ct} {c_law_point : Ct} {c_law_is_frac : Ct} {c_law_is_place : Ct} {c_law_line_fits : Ct} {c_law_grounds : Ct} {c_law_so : Ct} {c_law_sort : Ct} (h_law_first : Has P w K mg base 5 "_law_first" 3 c_law_first) (h_law_even : Has P w K mg base 1 "_law_even" 2 c_law_even) (h_law_near : Has P w K mg base 2 "_law_near" 2 c_law_near) (h_law_off : Has P w K mg base 2 "_law_off" 2 c_law_off) (h_law_point : Has P w K mg base 3 "_law_point" 3 c_law_point) (m_len : mg "len" = none) (h_law_is_frac : Has P w K mg base 2 "_law_is_frac" 1 c_law_is_frac) (h_law_is_place : Has P w K mg base 3 "_law_is_place" 1 c_law_is_place) (h_law_line_fits : Has P w K mg base 3 "_law_line_fits" 3 c_law_line_fits) (h_law_grounds : Has P w K mg base 1 "_law_grounds" 1 c_law_grounds) (m_int : mg "int" = none) (h_law_so : Has P w K mg base 7 "_law_so" 2 c_law_so) (h_law_sort : Has P w K mg base 1 "_law_sort" 1 c_law_sort) (m_isinstance : mg "isinstance" = none) (m_tuple : mg "tuple" = none) (f : Addr) (cdv : Value) (A : Around) (outer : List Env) (s : Shared) (H : Hp) (E : XK) (hr : Room 7 (A.deeper (envOfC "_law_fits" (defScope s_law_fits) s.heap.objs.size f cdv))) : PDSs (bodyX P w K mg base N_law_fits "_law_fits" s_law_fits f cdv A outer s H E) (defBody s_law_fits) (t_law_fits c_law_first c_law_even c_law_near c_law_off c_law_point c_law_is_frac c_law_is_place c_law_line_fits c_law_grounds c_law_so c_law_sort) :=
  (pdss_cons (pds_if (PDW.pt (pdw_or (ptd_not (ptd_val (pd_isi (T := "tuple") rfl m_isinstance rfl m_tuple (by decide +kernel) (dv 1)))) (pdw_or1 (ptd_cmp (op_eqA hr.units) lk_eq cEq_mo (pd_callB call_lenA lk_len gLen_mo rfl m_len boot_len (dv 1)) pd_int (nomark _))))) (pdss_one (pds_ret pd_bl)) pdss_nil)
    (pdss_cons (pds_set (i := 3) sc_law_fits.nd (pd_call h_law_sort (hr.mono (by decide)) rfl (pda_cons (dv 0) pda_nil)))
    (pdss_cons (pds_if (ptd_cmp (op_eqA hr.units) lk_eq cEq_mo (dv 3) pd_str (nomark _)) (pdss_one (pds_ret (pd_cmp (op_eqA hr.units) lk_eq cEq_mo (dv 1) (pd_tup (pda_cons (pd_ix ix_tl lk_ix gIx_mo (pd_lst (pda_cons pd_str (pda_cons pd_str pda_nil))) (pd_callTy call_int1 lk_int1 gInt_mo rfl m_int boot_int (pd_call h_law_so (hr.mono (by decide)) rfl (pda_cons (dv 0) (pda_cons (dv 2) pda_nil))))) pda_nil)) (nomark _)))) pdss_nil)
    (pdss_cons (pds_setLcL (i := 4) rfl sc_law_fits.nd (blkOk_by (own := [("_law_name", 7)]) (N := N_law_fits) (sc := defScope s_law_fits) (by decide +kernel)) (fun _ _ _ _ _ => pg_name (i := 7) sc_law_fits.nd rfl (Or.inl rfl)) (fun _ _ _ _ _ => pdts_nil) (fun _ _ _ _ _ => (pd_slice (pd_dget (hu_of hr) (dv 2) (dv 7)) (pdo_some pd_int) pdo_none)) (pd_call h_law_grounds (hr.mono (by decide)) rfl (pda_cons (dv 0) pda_nil)) (sw_true rfl rfl rfl (by decide +kernel)))
    (pdss_cons (pds_if (ptd_cmp (op_eqA hr.units) lk_eq cEq_mo (dv 3) pd_str (nomark _)) (pdss_one (pds_ret (pd_and (pd_cmp (op_eqA hr.units) lk_eq cEq_mo (pd_ix ix_tl lk_ix gIx_mo (dv 1) pd_int) pd_str (nomark _)) (pd_one (pd_call h_law_line_fits (hr.mono (by decide)) rfl (pda_cons (dv 0) (pda_cons (pd_slice (dv 1) (pdo_some pd_int) pdo_none) (pda_cons (dv 4) pda_nil)))))))) pdss_nil)
    (pdss_cons (pds_if (ptd_not (ptd_val (pd_call h_law_is_place (hr.mono (by decide)) rfl (pda_cons (pd_slice (dv 1) (pdo_some pd_int) (pdo_some pd_int)) pda_nil)))) (pdss_one (pds_ret pd_bl)) pdss_nil)
    (pdss_cons (pds_if (ptd_cmp (op_eqA hr.units) lk_eq cEq_mo (dv 3) pd_str (nomark _)) (pdss_cons (pds_if (PDW.pt (pdw_or (ptd_cmp (op_neA hr.units) lk_ne cNe_mo (pd_ix ix_tl lk_ix gIx_mo (dv 1) pd_int) pd_str (nomark _)) (pdw_or (ptd_cmp (op_neA hr.units) lk_ne cNe_mo (pd_callB call_lenA lk_len gLen_mo rfl m_len boot_len (dv 1)) pd_int (nomark _)) (pdw_or1 (ptd_cmp (op_neA hr.units) lk_ne cNe_mo (pd_slice (dv 1) (pdo_some pd_int) (pdo_some pd_int)) (pd_ix ix_tl lk_ix gIx_mo (dv 4) pd_int) (nomark _)))))) (pdss_one (pds_ret pd_bl)) pdss_nil)
    (pdss_one (pds_ret (pd_and (pd_call h_law_is_frac (hr.mono (by decide)) rfl (pda_cons (pd_ix ix_tl lk_ix gIx_mo (dv 1) pd_int) pda_nil)) (pd_one (pd_call h_law_even (hr.mono (by decide)) rfl (pda_cons (pd_ix ix_tl lk_ix gIx_mo (dv 1) pd_int) (pda_cons (pd_call h_law_near (hr.mono (by decide)) rfl (pda_cons (pd_ix ix_tl lk_ix gIx_mo (dv 4) pd_int) (pda_cons (pd_ix ix_tl lk_ix gIx_mo (dv 4) pd_int) pda_nil))) pda_nil)))))))) pdss_nil)
    (pdss_cons (pds_if (PDW.pt (pdw_or (ptd_cmp (op_neA hr.units) lk_ne cNe_mo (pd_ix ix_tl lk_ix gIx_mo (dv 1) pd_int) pd_str (nomark _)) (pdw_or1 (ptd_cmp (op_neA hr.units) lk_ne cNe_mo (pd_callB call_lenA lk_len gLen_mo rfl m_len boot_len (dv 1)) pd_int (nomark _))))) (pdss_one (pds_ret pd_bl)) pdss_nil)
    (pdss_cons (pds_if (ptd_cmp (op_eqA hr.units) lk_eq cEq_mo (pd_ix ix_tl lk_ix gIx_mo (dv 0) pd_int) pd_str (nomark _)) (pdss_one (pds_ret (pd_cmp (op_eqA hr.units) lk_eq cEq_mo (pd_slice (dv 1) (pdo_some pd_int) pdo_none) (pd_slice (dv 0) (pdo_some pd_int) pdo_none) (nomark _)))) pdss_nil)
    (pdss_cons (pds_if (ptd_cmp (op_neA hr.units) lk_ne cNe_mo (pd_ix ix_tl lk_ix gIx_mo (dv 0) pd_int) pd_str (nomark _)) (pdss_one (pds_ret (pd_call h_law_point (hr.mono (by decide)) rfl (pda_cons (dv 0) (pda_cons (pd_slice (dv 1) (pdo_some pd_int) pdo_none) (pda_cons (dv 4) pda_nil)))))) pdss_nil)
    (pdss_cons (pds_set (i := 5) sc_law_fits.nd (pd_dget (hu_of hr) (dv 2) (pd_ix ix_tl lk_ix gIx_mo (dv 0) pd_int)))
    (pdss_cons (pds_set (i := 6) sc_law_fits.nd (pd_dget (hu_of hr) (dv 2) (pd_ix ix_tl lk_ix gIx_mo (dv 0) pd_int)))
    (pdss_cons (pds_if (PDW.pt (pdw_and (ptd_cmp (op_eqA hr.units) lk_eq cEq_mo (pd_ix ix_tl lk_ix gIx_mo (dv 5) pd_int) pd_str (nomark _)) (pdw_and1 (ptd_cmp (op_neA hr.units) lk_ne cNe_mo (pd_ix ix_tl lk_ix gIx_mo (pd_call h_law_off (hr.mono (by decide)) rfl (pda_cons (pd_slice (dv 1) (pdo_some pd_int) pdo_none) (pda_cons (pd_slice (dv 5) (pdo_some pd_int) pdo_none) pda_nil))) pd_int) pd_int (nomark _))))) (pdss_one (pds_ret pd_bl)) pdss_nil)
    (pdss_cons (pds_if (PDW.pt (pdw_and (ptd_cmp (op_eqA hr.units) lk_eq cEq_mo (pd_ix ix_tl lk_ix gIx_mo (dv 5) pd_int) pd_str (nomark _)) (pdw_and1 (ptd_not (ptd_val (pd_call h_law_even (hr.mono (by decide)) rfl (pda_cons (pd_call h_law_near (hr.mono (by decide)) rfl (pda_cons (pd_slice (dv 1) (pdo_some pd_int) pdo_none) (pda_cons (pd_slice (dv 5) (pdo_some pd_int) (pdo_some pd_int)) pda_nil))) (pda_cons (pd_ix ix_tl lk_ix gIx_mo (dv 5) pd_int) pda_nil)))))))) (pdss_one (pds_ret pd_bl)) pdss_nil)
    (pdss_cons (pds_if (ptd_not (ptd_val (pd_call h_law_even (hr.mono (by decide)) rfl (pda_cons (pd_call h_law_near (hr.mono (by decide)) rfl (pda_cons (pd_slice (dv 1) (pdo_some pd_int) pdo_none) (pda_cons (pd_slice (dv 6) (pdo_some pd_int) (pdo_some pd_int)) pda_nil))) (pda_cons (pd_ix ix_tl lk_ix gIx_mo (dv 6) pd_int) pda_nil))))) (pdss_one (pds_ret pd_bl)) pdss_nil)
    (pdss_one (pds_ret (pd_cmp op_in_seq lk_in cIn_mo (pd_call h_law_first (hr.mono (by decide)) rfl (pda_cons (pd_slice (dv 1) (pdo_some pd_int) pdo_none) (pda_cons (dv 5) (pda_cons (dv 6) pda_nil)))) (pd_tup (pda_cons pd_int (pda_cons (pd_ix ix_tl lk_ix gIx_mo (dv 0) pd_int) pda_nil))) rfl))))))))))))))))))
end
end Mb
set_option Elab.async false
set_option linter.all false
set_option maxRecDepth 100000
set_option maxHeartbeats 4000000
namespace Mb
open PySem PySem.Spec PyProof.Rows L2
/-! More derivations: printed by gen_der.py. -/
section
variable {P : Program} {w : World} {K : PySem.W.Frag} {mg : Str → Option Value} {base : Heap}
abbrev N_law_pool : List Str := [("_law_script" : Str), ("_law_at" : Str), ("_law_cell" : Str), ("_law_digits" : Str)]
abbrev P_law_pool : List Str := [("_law_script" : Str), ("_law_at" : Str)]
theorem sc_law_pool : FnScope N_law_pool P_law_pool (defScope s_law_pool) := ⟨rfl, rfl, rfl, by decide +kernel, rfl, by decide +kernel, by decide +kernel⟩
theorem der_law_pool (m_len : mg "len" = none) (f : Addr) (cdv : Value) (A : Around) (outer : List Env) (s : Shared) (H : Hp) (E : XK) (hr : Room 0 (A.deeper (envOfC "_law_pool" (defScope s_law_pool) s.heap.objs.size f cdv))) : PDSs (bodyX P w K mg base N_law_pool "_law_pool" s_law_pool f cdv A outer s H E) (defBody s_law_pool) (t_law_pool) :=
  (pdss_cons (pds_set (i := 2) sc_law_pool.nd pd_int)
    (pdss_cons (pds_if (ptd_cmp op_gt lk_int cInt_mo (pd_callB call_lenA lk_len gLen_mo rfl m_len boot_len (dv 0)) pd_int (nomark _)) (pdss_one (pds_set (i := 2) sc_law_pool.nd (pd_ix ix_tl lk_ix gIx_mo (dv 0) (pd_op op_modN lk_mod gMod_mo (dv 1) (pd_callB call_lenA lk_len gLen_mo rfl m_len boot_len (dv 0)))))) pdss_nil)
    (pdss_cons (pds_set (i := 3) sc_law_pool.nd pd_int)
    (pdss_cons (pds_if (PDW.pt (pdw_and (ptd_cmp op_ge lk_int cInt_mo (dv 2) (pd_op op_powX lk_pow gPow_mo pd_int pd_int) (nomark _)) (pdw_and1 (ptd_cmp op_lt lk_int cInt_mo (dv 1) (pd_callB call_lenA lk_len gLen_mo rfl m_len boot_len (dv 0)) (nomark _))))) (pdss_one (pds_set (i := 3) sc_law_pool.nd (dv 2))) pdss_nil)
    (pdss_one (pds_ret (pd_lst (pda_cons (dv 3) (pda_cons (pd_op op_mulW lk_mul gMul_mo pd_int (dv 1)) (pda_cons (dv 2) pda_nil))))))))))
abbrev N_law_det : List Str := [("_law_rows" : Str), ("_law_found" : Str), ("_law_k" : Str), ("_law_rest" : Str), ("_law_part" : Str), ("_law_row" : Str)]
abbrev P_law_det : List Str := [("_law_rows" : Str)]
theorem sc_law_det : FnScope N_law_det P_law_det (defScope s_law_det) := ⟨rfl, rfl, rfl, by decide +kernel, rfl, by decide +kernel, by decide +kernel⟩
theorem der_law_det {k : Nat} {c_law_low : Ct} {c_law_plus : Ct} {c_law_less : Ct} {c_law_times : Ct} {c_law_det : Ct} (h_law_low : Has P w K mg base k "_law_low" 2 c_law_low) (h_law_plus : Has P w K mg base k "_law_plus" 2 c_law_plus) (h_law_less : Has P w K mg base k "_law_less" 2 c_law_less) (h_law_times : Has P w K mg base k "_law_times" 2 c_law_times) (h_law_det : Has P w K mg base k "_law_det" 1 c_law_det) (m_range : mg "range" = none) (m_len : mg "len" = none) (f : Addr) (cdv : Value) (A : Around) (outer : List Env) (s : Shared) (H : Hp) (E : XK) (hr : Room k (A.deeper (envOfC "_law_det" (defScope s_law_det) s.heap.objs.size f cdv))) : PDSs (bodyX P w K mg base N_law_det "_law_det" s_law_det f cdv A outer s H E) (defBody s_law_det) (t_law_det c_law_low c_law_plus c_law_less c_law_times c_law_det) :=
  (pdss_cons (pds_if (ptd_cmp (op_eqA hr.units) lk_eq cEq_mo (pd_callB call_lenA lk_len gLen_mo rfl m_len boot_len (dv 0)) pd_int (nomark _)) (pdss_one (pds_ret (pd_ix ix_tl lk_ix gIx_mo (pd_ix ix_tl lk_ix gIx_mo (dv 0) pd_int) pd_int))) pdss_nil)
    (pdss_cons (pds_set (i := 1) sc_law_det.nd (pd_tup (pda_cons pd_int (pda_cons pd_int pda_nil))))
    (pdss_cons (pds_forN (i := 2) PassesOwn.never rfl sc_law_det.nd rfl m_range (pd_callB call_lenA lk_len gLen_mo rfl m_len boot_len (dv 0)) (pdss_cons (pds_setLcL (i := 3) rfl sc_law_det.nd (blkOk_by (own := [("_law_row", 5)]) (N := N_law_det) (sc := defScope s_law_det) (by decide +kernel)) (fun _ _ _ _ _ => pg_name (i := 5) sc_law_det.nd rfl (Or.inl rfl)) (fun _ _ _ _ _ => pdts_nil) (fun _ _ _ _ _ => (pd_slice (dv 5) (pdo_some pd_int) pdo_none)) (pd_op op_cat lk_catL gCatL_mo (pd_slice (dv 0) pdo_none (pdo_some (dv 2))) (pd_slice (dv 0) (pdo_some (pd_op op_add lk_add gAdd_mo (dv 2) pd_int)) pdo_none)) (sw_true rfl rfl rfl (by decide +kernel)))
    (pdss_cons (pds_set (i := 4) sc_law_det.nd (pd_call h_law_times hr rfl (pda_cons (pd_ix ix_tl lk_ix gIx_mo (pd_ix ix_tl lk_ix gIx_mo (dv 0) (dv 2)) pd_int) (pda_cons (pd_call h_law_det hr rfl (pda_cons (dv 3) pda_nil)) pda_nil))))
    (pdss_cons (pds_if (ptd_cmp (op_eqA hr.units) lk_eq cEq_mo (pd_op op_modN lk_mod gMod_mo (dv 2) pd_int) pd_int (nomark _)) (pdss_one (pds_set (i := 1) sc_law_det.nd (pd_call h_law_plus hr rfl (pda_cons (dv 1) (pda_cons (dv 4) pda_nil))))) (pdss_one (pds_set (i := 1) sc_law_det.nd (pd_call h_law_less hr rfl (pda_cons (dv 1) (pda_cons (dv 4) pda_nil))))))
    (pdss_one (pds_set (i := 1) sc_law_det.nd (pd_call h_law_low hr rfl (pda_cons (pd_ix ix_tl lk_ix gIx_mo (dv 1) pd_int) (pda_cons (pd_ix ix_tl lk_ix gIx_mo (dv 1) pd_int) pda_nil)))))))))
    (pdss_one (pds_ret (dv 1))))))
abbrev N_made_of : List Str := [("making" : Str), ("at" : Str), ("word" : Str), ("each" : Str), ("bare" : Str), ("deed" : Str), ("name" : Str), ("one" : Str)]
abbrev P_made_of : List Str := [("making" : Str), ("at" : Str)]
theorem sc_made_of : FnScope N_made_of P_made_of (defScope s_made_of) := ⟨rfl, rfl, rfl, by decide +kernel, rfl, by decide +kernel, by decide +kernel⟩
theorem der_made_of {c_judged : Ct} {c_shown_or : Ct} {c_about : Ct} {c_cut_made : Ct} {c_meet : Ct} {c_share : Ct} {c_grounds : Ct} {F_LINES : Str → Option Ct} {F_PLACES : Str → Option Ct} (h_judged : Has P w K mg base 6 "judged" 2 c_judged) (h_shown_or : Has P w K mg base 1 "shown_or" 3 c_shown_or) (h_about : Has P w K mg base 5 "about" 2 c_about) (T_LINES : FTab P w K mg base 6 "LINES" 2 F_LINES) (h_cut_made : Has P w K mg base 6 "cut_made" 3 c_cut_made) (h_meet : Has P w K mg base 3 "meet" 2 c_meet) (h_share : Has P w K mg base 4 "share" 3 c_share) (T_PLACES : FTab P w K mg base 6 "PLACES" 2 F_PLACES) (h_grounds : Has P w K mg base 1 "grounds" 1 c_grounds) (f : Addr) (cdv : Value) (A : Around) (outer : List Env) (s : Shared) (H : Hp) (E : XK) (hr : Room 6 (A.deeper (envOfC "made_of" (defScope s_made_of) s.heap.objs.size f cdv))) : PDSs (bodyX P w K mg base N_made_of "made_of" s_made_of f cdv A outer s H E) (defBody s_made_of) (t_made_of c_judged c_shown_or c_about c_cut_made c_meet c_share c_grounds F_LINES F_PLACES) :=
  (pdss_cons (pds_set (i := 2) sc_made_of.nd (pd_ix ix_tl lk_ix gIx_mo (dv 0) pd_int))
    (pdss_cons (pds_if (ptd_cmp (op_eqA hr.units) lk_eq cEq_mo (dv 2) pd_str (nomark _)) (pdss_one (pds_ret (pd_tup (pda_cons pd_str (pda_cons (pd_ix ix_tl lk_ix gIx_mo (dv 0) pd_int) (pda_cons (pd_ix ix_tl lk_ix gIx_mo (dv 0) pd_int) pda_nil)))))) pdss_nil)
    (pdss_cons (pds_setLcL (i := 3) rfl sc_made_of.nd (blkOk_by (own := [("name", 6)]) (N := N_made_of) (sc := defScope s_made_of) (by decide +kernel)) (fun _ _ _ _ _ => pg_name (i := 6) sc_made_of.nd rfl (Or.inl rfl)) (fun _ _ _ _ _ => pdts_nil) (fun _ _ _ _ _ => (pd_dget (hu_of hr) (dv 1) (dv 6))) (pd_call h_grounds (hr.mono (by decide)) rfl (pda_cons (dv 0) pda_nil)) (sw_true rfl rfl rfl (by decide +kernel)))
    (pdss_cons (pds_setLcL (i := 4) rfl sc_made_of.nd (blkOk_by (own := [("one", 7)]) (N := N_made_of) (sc := defScope s_made_of) (by decide +kernel)) (fun _ _ _ _ _ => pg_name (i := 7) sc_made_of.nd rfl (Or.inl rfl)) (fun _ _ _ _ _ => pdts_nil) (fun _ _ _ _ _ => (pd_slice (dv 7) (pdo_some pd_int) pdo_none)) (dv 3) (sw_true rfl rfl rfl (by decide +kernel)))
    (pdss_cons (pds_if (ptd_inF T_PLACES rfl (dv 2)) (pdss_deed (i := 5) T_PLACES rfl sc_made_of.nd (dv 2) (fun C mC => (pf_op op_catT lk_catT gCatT_mo (pf_pd (pd_tup (pda_cons pd_str pda_nil))) (pf_loc mC hr rfl (Or.inl rfl) (pda_cons (pd_ix ix_tl lk_ix gIx_mo (dv 4) pd_int) (pda_cons (pd_ix ix_tl lk_ix gIx_mo (dv 4) pd_int) pda_nil)))))) pdss_nil)
    (pdss_cons (pds_if (ptd_cmp (op_eqA hr.units) lk_eq cEq_mo (dv 2) pd_str (nomark _)) (pdss_one (pds_ret (pd_op op_catT lk_catT gCatT_mo (pd_tup (pda_cons pd_str pda_nil)) (pd_call h_share (hr.mono (by decide)) rfl (pda_cons (pd_ix ix_tl lk_ix gIx_mo (dv 4) pd_int) (pda_cons (pd_ix ix_tl lk_ix gIx_mo (dv 4) pd_int) (pda_cons (pd_ix ix_tl lk_ix gIx_mo (dv 0) pd_int) pda_nil))))))) pdss_nil)
    (pdss_cons (pds_if (ptd_cmp (op_eqA hr.units) lk_eq cEq_mo (dv 2) pd_str (nomark _)) (pdss_one (pds_ret (pd_call h_shown_or (hr.mono (by decide)) rfl (pda_cons pd_str (pda_cons (pd_call h_meet (hr.mono (by decide)) rfl (pda_cons (pd_ix ix_tl lk_ix gIx_mo (dv 4) pd_int) (pda_cons (pd_ix ix_tl lk_ix gIx_mo (dv 4) pd_int) pda_nil))) (pda_cons pd_str pda_nil)))))) pdss_nil)
    (pdss_cons (pds_if (ptd_cmp (op_eqA hr.units) lk_eq cEq_mo (dv 2) pd_str (nomark _)) (pdss_one (pds_ret (pd_call h_cut_made (hr.mono (by decide)) rfl (pda_cons (pd_ix ix_tl lk_ix gIx_mo (dv 3) pd_int) (pda_cons (pd_ix ix_tl lk_ix gIx_mo (dv 3) pd_int) (pda_cons (pd_ix ix_tl lk_ix gIx_mo (dv 0) pd_int) pda_nil)))))) pdss_nil)
    (pdss_cons (pds_if (ptd_inF T_LINES rfl (dv 2)) (pdss_deed (i := 5) T_LINES rfl sc_made_of.nd (dv 2) (fun C mC => (pf_call h_shown_or (hr.mono (by decide)) rfl (pfa_cons (pf_pd pd_str) (pfa_cons (pf_loc mC hr rfl (Or.inl rfl) (pda_cons (pd_ix ix_tl lk_ix gIx_mo (dv 4) pd_int) (pda_cons (pd_ix ix_tl lk_ix gIx_mo (dv 4) pd_int) pda_nil))) (pfa_cons (pf_pd pd_str) (pfa_pda pda_nil))))))) pdss_nil)
    (pdss_cons (pds_if (ptd_cmp (op_eqA hr.units) lk_eq cEq_mo (dv 2) pd_str (nomark _)) (pdss_one (pds_ret (pd_call h_shown_or (hr.mono (by decide)) rfl (pda_cons pd_str (pda_cons (pd_call h_about (hr.mono (by decide)) rfl (pda_cons (pd_ix ix_tl lk_ix gIx_mo (dv 4) pd_int) (pda_cons (pd_ix ix_tl lk_ix gIx_mo (dv 4) pd_int) pda_nil))) (pda_cons pd_str pda_nil)))))) pdss_nil)
    (pdss_cons (pds_if (ptd_val (pd_call h_judged (hr.mono (by decide)) rfl (pda_cons (dv 2) (pda_cons (dv 4) pda_nil)))) (pdss_one (pds_ret (pd_tup (pda_cons pd_str pda_nil)))) pdss_nil)
    (pdss_one (pds_ret (pd_tup (pda_cons pd_str pda_nil)))))))))))))))
end
end Mb
set_option Elab.async false
set_option linter.all false
set_option maxRecDepth 100000
set_option maxHeartbeats 1000000
namespace Mb
open PySem PySem.Spec PyProof.Rows L2
/-! ### every pure def keeps its contract: printed by gen_has.py -/
theorem imp_r {p X Y : Prop} (h : X → Y) : (p → X) → (p → Y) := fun f a => h (f a)
theorem all_imp {α : Sort u} {p q : α → Prop} (h : ∀ a, p a → q a) : (∀ a, p a) → ∀ a, q a := fun f a => h a (f a)
/-- what the heads of the program and the law leave -/
structure Fx (w : World) (K : PySem.W.Frag) (mg : Str → Option Value) : Prop where
  d_divisor : DefAt K mg "divisor" s_divisor
  d_fraction : DefAt K mg "fraction" s_fraction
  d_plus : DefAt K mg "plus" s_plus
  d_minus : DefAt K mg "minus" s_minus
  d_times : DefAt K mg "times" s_times
  d_over : DefAt K mg "over" s_over
  d_less : DefAt K mg "less" s_less
  d_whole_root : DefAt K mg "whole_root" s_whole_root
  d_root : DefAt K mg "root" s_root
  d_share : DefAt K mg "share" s_share
  d_middle : DefAt K mg "middle" s_middle
  d_beyond : DefAt K mg "beyond" s_beyond
  d_turned : DefAt K mg "turned" s_turned
  d_one_form : DefAt K mg "one_form" s_one_form
  d_over_one : DefAt K mg "over_one" s_over_one
  d_through : DefAt K mg "through" s_through
  d_along : DefAt K mg "along" s_along
  d_upright : DefAt K mg "upright" s_upright
  d_meet : DefAt K mg "meet" s_meet
  d_foot : DefAt K mg "foot" s_foot
  d_mirror : DefAt K mg "mirror" s_mirror
  d_square_between : DefAt K mg "square_between" s_square_between
  d_about : DefAt K mg "about" s_about
  d_ahead : DefAt K mg "ahead" s_ahead
  d_line_cuts : DefAt K mg "line_cuts" s_line_cuts
  d_between_line : DefAt K mg "between_line" s_between_line
  d_ring_cuts : DefAt K mg "ring_cuts" s_ring_cuts
  d_cross : DefAt K mg "cross" s_cross
  d_in_line : DefAt K mg "in_line" s_in_line
  d_side_by_side : DefAt K mg "side_by_side" s_side_by_side
  d_square_on : DefAt K mg "square_on" s_square_on
  d_all_round : DefAt K mg "all_round" s_all_round
  d_as_far : DefAt K mg "as_far" s_as_far
  d_sort_of : DefAt K mg "sort_of" s_sort_of
  d_grounds : DefAt K mg "grounds" s_grounds
  d_asked_sorts : DefAt K mg "asked_sorts" s_asked_sorts
  d_suits : DefAt K mg "suits" s_suits
  d_within : DefAt K mg "within" s_within
  d_too_far : DefAt K mg "too_far" s_too_far
  d_good : DefAt K mg "good" s_good
  d_weigh : DefAt K mg "weigh" s_weigh
  d_grounds_stand : DefAt K mg "grounds_stand" s_grounds_stand
  d_admitted : DefAt K mg "admitted" s_admitted
  d_judged : DefAt K mg "judged" s_judged
  d_shown_or : DefAt K mg "shown_or" s_shown_or
  d_cut_made : DefAt K mg "cut_made" s_cut_made
  d_telling_of : DefAt K mg "telling_of" s_telling_of
  d_law_gcd : DefAt K mg "_law_gcd" s_law_gcd
  d_law_low : DefAt K mg "_law_low" s_law_low
  d_law_plus : DefAt K mg "_law_plus" s_law_plus
  d_law_less : DefAt K mg "_law_less" s_law_less
  d_law_times : DefAt K mg "_law_times" s_law_times
  d_law_even : DefAt K mg "_law_even" s_law_even
  d_law_whole : DefAt K mg "_law_whole" s_law_whole
  d_law_is_frac : DefAt K mg "_law_is_frac" s_law_is_frac
  d_law_is_place : DefAt K mg "_law_is_place" s_law_is_place
  d_law_is_line : DefAt K mg "_law_is_line" s_law_is_line
  d_law_grounds : DefAt K mg "_law_grounds" s_law_grounds
  d_law_sort : DefAt K mg "_law_sort" s_law_sort
  d_law_weight : DefAt K mg "_law_weight" s_law_weight
  d_law_near : DefAt K mg "_law_near" s_law_near
  d_law_off : DefAt K mg "_law_off" s_law_off
  d_law_so : DefAt K mg "_law_so" s_law_so
  d_law_root : DefAt K mg "_law_root" s_law_root
  d_law_chord : DefAt K mg "_law_chord" s_law_chord
  d_law_parts : DefAt K mg "_law_parts" s_law_parts
  d_law_fail : DefAt K mg "_law_fail" s_law_fail
  d_law_first : DefAt K mg "_law_first" s_law_first
  d_law_on_way : DefAt K mg "_law_on_way" s_law_on_way
  d_law_point : DefAt K mg "_law_point" s_law_point
  d_law_line_fits : DefAt K mg "_law_line_fits" s_law_line_fits
  d_law_fits : DefAt K mg "_law_fits" s_law_fits
  d_law_pool : DefAt K mg "_law_pool" s_law_pool
  d_law_det : DefAt K mg "_law_det" s_law_det
  d_made_of : DefAt K mg "made_of" s_made_of
  d_law_take : DefAt K mg "_law_take" s_law_take
  d_law_frac : DefAt K mg "_law_frac" s_law_frac
  d_law_place : DefAt K mg "_law_place" s_law_place
  d_law_making : DefAt K mg "_law_making" s_law_making
  d_law_plain_place : DefAt K mg "_law_plain_place" s_law_plain_place
  d_law_plain_row : DefAt K mg "_law_plain_row" s_law_plain_row
  d_law : DefAt K mg "law" s_law
  d_law_holds : DefAt K mg "_law_holds" s_law_holds
  d_anew : DefAt K mg "anew" s_anew
  d_tellings_of : DefAt K mg "tellings_of" s_tellings_of
  m_abs : mg "abs" = none
  m_bool : mg "bool" = none
  m_enumerate : mg "enumerate" = none
  m_int : mg "int" = none
  m_isinstance : mg "isinstance" = none
  m_len : mg "len" = none
  m_list : mg "list" = none
  m_range : mg "range" = none
  m_str : mg "str" = none
  m_sum : mg "sum" = none
  m_tuple : mg "tuple" = none
  m_zip : mg "zip" = none
  g_SHARE_MOST : GVal mg "SHARE_MOST" (.int 1000)
  g_FREE_MOST : GVal mg "FREE_MOST" (.int 1000000000)
  g_LETTERS : GVal mg "LETTERS" (.str "abcdefghijklmnopqrstuvwxyz")
  g_FIGURES : GVal mg "FIGURES" (.str "0123456789")
  g_MOST : GVal mg "MOST" (.int 40)
  T_SORTS : GTab w K mg "SORTS" f_SORTS
  T_ASKED : GTab w K mg "ASKED" f_ASKED
/-- a dict of the top whose values are defs of these names -/
structure NTab (w : World) (K : PySem.W.Frag) (mg : Str → Option Value) (x : Str) (F : List (Str × Str)) : Prop where
  ex : ∃ a es nn, mg x = some (.ref a) ∧ KDict K w a es nn ∧ ∀ key, (F.lookup key = none ∧ PySem.W.nsIn K a key = some none) ∨ ∃ y f, F.lookup key = some y ∧ mg y = some (.ref f) ∧ PySem.W.nsIn K a key = some (some (.ref f))
section
variable {P : Program} {w : World} {K : PySem.W.Frag} {mg : Str → Option Value} {base : Heap}
theorem Has.held {k n : Nat} {x : Str} {F : Ct} {f : Addr} (h : Has P w K mg base k x n F) (e : mg x = some (.ref f)) : HeldD P w K mg base k f n F := by
  obtain ⟨f', fd, ps, h1, h2, h3, h4⟩ := h.ex
  rw [e] at h1
  injection h1 with h1
  injection h1 with h1
  subst h1
  exact ⟨⟨fd, ps, h4, h2, h3⟩, h.mo⟩
theorem has_false {x : Str} {st : Stmt} {N ps : List Str} {n k : Nat} (D : DefAt K mg x st) (S : FnScope N ps (defScope st))
    (hbind : ∀ (kV doc pm : Value) (an : Option Addr) (cdv ct : Value) (us : List Value), us.length = ps.length → bindArgs (PySem.W.fnOf x x (defArgs st) (defBody st) (defScope st) .none kV doc pm an cdv ct) ⟨us, []⟩ = pure (ps.zip us)) : Has P w K mg base k x n (fun _ _ => False) := by
  obtain ⟨f, fd, h1, h2, Fn⟩ := D.ex
  exact ⟨⟨f, fd, ps, h1, h2, Fn.binds hbind, ⟨fun vs H Q E ⟨_, _, _, h⟩ => h.elim, fun A outer s H args us vs Q E hr he hb hv ⟨_, _, _, h⟩ => h.elim⟩⟩, fun _ _ _ _ h => h.elim⟩
theorem mo_divisor : MoC c_divisor := by
  intro ds P P' m
  unfold c_divisor
  repeat' (first | exact id | exact m _ | refine Exists.imp fun _ => ?_ | refine And.imp ?_ ?_ | refine Or.imp ?_ ?_ | refine imp_r ?_ | refine all_imp fun _ => ?_)
theorem mo_fraction : MoC c_fraction := by
  intro ds P P' m
  unfold c_fraction
  repeat' (first | exact id | exact m _ | refine Exists.imp fun _ => ?_ | refine And.imp ?_ ?_ | refine Or.imp ?_ ?_ | refine imp_r ?_ | refine all_imp fun _ => ?_)
theorem mo_plus : MoC c_plus := by
  intro ds P P' m
  unfold c_plus
  repeat' (first | exact id | exact m _ | refine Exists.imp fun _ => ?_ | refine And.imp ?_ ?_ | refine Or.imp ?_ ?_ | refine imp_r ?_ | refine all_imp fun _ => ?_)
theorem mo_minus : MoC c_minus := by
  intro ds P P' m
  unfold c_minus
  repeat' (first | exact id | exact m _ | refine Exists.imp fun _ => ?_ | refine And.imp ?_ ?_ | refine Or.imp ?_ ?_ | refine imp_r ?_ | refine all_imp fun _ => ?_)
theorem mo_times : MoC c_times := by
  intro ds P P' m
  unfold c_times
  repeat' (first | exact id | exact m _ | refine Exists.imp fun _ => ?_ | refine And.imp ?_ ?_ | refine Or.imp ?_ ?_ | refine imp_r ?_ | refine all_imp fun _ => ?_)
theorem mo_over : MoC c_over := by
  intro ds P P' m
  unfold c_over
  repeat' (first | exact id | exact m _ | refine Exists.imp fun _ => ?_ | refine And.imp ?_ ?_ | refine Or.imp ?_ ?_ | refine imp_r ?_ | refine all_imp fun _ => ?_)
theorem mo_less : MoC c_less := by
  intro ds P P' m
  unfold c_less
  repeat' (first | exact id | exact m _ | refine Exists.imp fun _ => ?_ | refine And.imp ?_ ?_ | refine Or.imp ?_ ?_ | refine imp_r ?_ | refine all_imp fun _ => ?_)
theorem mo_whole_root : MoC c_whole_root := by
  intro ds P P' m
  unfold c_whole_root
  repeat' (first | exact id | exact m _ | refine Exists.imp fun _ => ?_ | refine And.imp ?_ ?_ | refine Or.imp ?_ ?_ | refine imp_r ?_ | refine all_imp fun _ => ?_)
theorem mo_root : MoC c_root := by
  intro ds P P' m
  unfold c_root
  repeat' (first | exact id | exact m _ | refine Exists.imp fun _ => ?_ | refine And.imp ?_ ?_ | refine Or.imp ?_ ?_ | refine imp_r ?_ | refine all_imp fun _ => ?_)
theorem mo_share : MoC c_share := by
  intro ds P P' m
  unfold c_share
  repeat' (first | exact id | exact m _ | refine Exists.imp fun _ => ?_ | refine And.imp ?_ ?_ | refine Or.imp ?_ ?_ | refine imp_r ?_ | refine all_imp fun _ => ?_)
theorem mo_middle : MoC c_middle := by
  intro ds P P' m
  unfold c_middle
  repeat' (first | exact id | exact m _ | refine Exists.imp fun _ => ?_ | refine And.imp ?_ ?_ | refine Or.imp ?_ ?_ | refine imp_r ?_ | refine all_imp fun _ => ?_)
theorem mo_beyond : MoC c_beyond := by
  intro ds P P' m
  unfold c_beyond
  repeat' (first | exact id | exact m _ | refine Exists.imp fun _ => ?_ | refine And.imp ?_ ?_ | refine Or.imp ?_ ?_ | refine imp_r ?_ | refine all_imp fun _ => ?_)
theorem mo_turned : MoC c_turned := by
  intro ds P P' m
  unfold c_turned
  repeat' (first | exact id | exact m _ | refine Exists.imp fun _ => ?_ | refine And.imp ?_ ?_ | refine Or.imp ?_ ?_ | refine imp_r ?_ | refine all_imp fun _ => ?_)
theorem mo_one_form : MoC c_one_form := by
  intro ds P P' m
  unfold c_one_form
  repeat' (first | exact id | exact m _ | refine Exists.imp fun _ => ?_ | refine And.imp ?_ ?_ | refine Or.imp ?_ ?_ | refine imp_r ?_ | refine all_imp fun _ => ?_)
theorem mo_over_one : MoC c_over_one := by
  intro ds P P' m
  unfold c_over_one
  repeat' (first | exact id | exact m _ | refine Exists.imp fun _ => ?_ | refine And.imp ?_ ?_ | refine Or.imp ?_ ?_ | refine imp_r ?_ | refine all_imp fun _ => ?_)
theorem mo_through : MoC c_through := by
  intro ds P P' m
  unfold c_through
  repeat' (first | exact id | exact m _ | refine Exists.imp fun _ => ?_ | refine And.imp ?_ ?_ | refine Or.imp ?_ ?_ | refine imp_r ?_ | refine all_imp fun _ => ?_)
theorem mo_along : MoC c_along := by
  intro ds P P' m
  unfold c_along
  repeat' (first | exact id | exact m _ | refine Exists.imp fun _ => ?_ | refine And.imp ?_ ?_ | refine Or.imp ?_ ?_ | refine imp_r ?_ | refine all_imp fun _ => ?_)
theorem mo_upright : MoC c_upright := by
  intro ds P P' m
  unfold c_upright
  repeat' (first | exact id | exact m _ | refine Exists.imp fun _ => ?_ | refine And.imp ?_ ?_ | refine Or.imp ?_ ?_ | refine imp_r ?_ | refine all_imp fun _ => ?_)
theorem mo_meet : MoC c_meet := by
  intro ds P P' m
  unfold c_meet
  repeat' (first | exact id | exact m _ | refine Exists.imp fun _ => ?_ | refine And.imp ?_ ?_ | refine Or.imp ?_ ?_ | refine imp_r ?_ | refine all_imp fun _ => ?_)
theorem mo_foot : MoC c_foot := by
  intro ds P P' m
  unfold c_foot
  repeat' (first | exact id | exact m _ | refine Exists.imp fun _ => ?_ | refine And.imp ?_ ?_ | refine Or.imp ?_ ?_ | refine imp_r ?_ | refine all_imp fun _ => ?_)
theorem mo_mirror : MoC c_mirror := by
  intro ds P P' m
  unfold c_mirror
  repeat' (first | exact id | exact m _ | refine Exists.imp fun _ => ?_ | refine And.imp ?_ ?_ | refine Or.imp ?_ ?_ | refine imp_r ?_ | refine all_imp fun _ => ?_)
theorem mo_square_between : MoC c_square_between := by
  intro ds P P' m
  unfold c_square_between
  repeat' (first | exact id | exact m _ | refine Exists.imp fun _ => ?_ | refine And.imp ?_ ?_ | refine Or.imp ?_ ?_ | refine imp_r ?_ | refine all_imp fun _ => ?_)
theorem mo_about : MoC c_about := by
  intro ds P P' m
  unfold c_about
  repeat' (first | exact id | exact m _ | refine Exists.imp fun _ => ?_ | refine And.imp ?_ ?_ | refine Or.imp ?_ ?_ | refine imp_r ?_ | refine all_imp fun _ => ?_)
theorem mo_ahead : MoC c_ahead := by
  intro ds P P' m
  unfold c_ahead
  repeat' (first | exact id | exact m _ | refine Exists.imp fun _ => ?_ | refine And.imp ?_ ?_ | refine Or.imp ?_ ?_ | refine imp_r ?_ | refine all_imp fun _ => ?_)
theorem mo_line_cuts : MoC c_line_cuts := by
  intro ds P P' m
  unfold c_line_cuts CutQ
  repeat' (first | exact id | exact m _ | refine Exists.imp fun _ => ?_ | refine And.imp ?_ ?_ | refine Or.imp ?_ ?_ | refine imp_r ?_ | refine all_imp fun _ => ?_)
theorem mo_between_line : MoC c_between_line := by
  intro ds P P' m
  unfold c_between_line
  repeat' (first | exact id | exact m _ | refine Exists.imp fun _ => ?_ | refine And.imp ?_ ?_ | refine Or.imp ?_ ?_ | refine imp_r ?_ | refine all_imp fun _ => ?_)
theorem mo_ring_cuts : MoC c_ring_cuts := by
  intro ds P P' m
  unfold c_ring_cuts CutQ
  repeat' (first | exact id | exact m _ | refine Exists.imp fun _ => ?_ | refine And.imp ?_ ?_ | refine Or.imp ?_ ?_ | refine imp_r ?_ | refine all_imp fun _ => ?_)
theorem mo_cross : MoC c_cross := by
  intro ds P P' m
  unfold c_cross
  repeat' (first | exact id | exact m _ | refine Exists.imp fun _ => ?_ | refine And.imp ?_ ?_ | refine Or.imp ?_ ?_ | refine imp_r ?_ | refine all_imp fun _ => ?_)
theorem mo_in_line : MoC c_in_line := by
  intro ds P P' m
  unfold c_in_line
  repeat' (first | exact id | exact m _ | refine Exists.imp fun _ => ?_ | refine And.imp ?_ ?_ | refine Or.imp ?_ ?_ | refine imp_r ?_ | refine all_imp fun _ => ?_)
theorem mo_side_by_side : MoC c_side_by_side := by
  intro ds P P' m
  unfold c_side_by_side
  repeat' (first | exact id | exact m _ | refine Exists.imp fun _ => ?_ | refine And.imp ?_ ?_ | refine Or.imp ?_ ?_ | refine imp_r ?_ | refine all_imp fun _ => ?_)
theorem mo_square_on : MoC c_square_on := by
  intro ds P P' m
  unfold c_square_on
  repeat' (first | exact id | exact m _ | refine Exists.imp fun _ => ?_ | refine And.imp ?_ ?_ | refine Or.imp ?_ ?_ | refine imp_r ?_ | refine all_imp fun _ => ?_)
theorem mo_all_round : MoC c_all_round := by
  intro ds P P' m
  unfold c_all_round
  repeat' (first | exact id | exact m _ | refine Exists.imp fun _ => ?_ | refine And.imp ?_ ?_ | refine Or.imp ?_ ?_ | refine imp_r ?_ | refine all_imp fun _ => ?_)
theorem mo_as_far : MoC c_as_far := by
  intro ds P P' m
  unfold c_as_far
  repeat' (first | exact id | exact m _ | refine Exists.imp fun _ => ?_ | refine And.imp ?_ ?_ | refine Or.imp ?_ ?_ | refine imp_r ?_ | refine all_imp fun _ => ?_)
theorem mo_sort_of : MoC c_sort_of := by
  intro ds P P' m
  unfold c_sort_of
  repeat' (first | exact id | exact m _ | refine Exists.imp fun _ => ?_ | refine And.imp ?_ ?_ | refine Or.imp ?_ ?_ | refine imp_r ?_ | refine all_imp fun _ => ?_)
theorem mo_grounds : MoC c_grounds := by
  intro ds P P' m
  unfold c_grounds
  repeat' (first | exact id | exact m _ | refine Exists.imp fun _ => ?_ | refine And.imp ?_ ?_ | refine Or.imp ?_ ?_ | refine imp_r ?_ | refine all_imp fun _ => ?_)
theorem mo_asked_sorts : MoC c_asked_sorts := by
  intro ds P P' m
  unfold c_asked_sorts
  repeat' (first | exact id | exact m _ | refine Exists.imp fun _ => ?_ | refine And.imp ?_ ?_ | refine Or.imp ?_ ?_ | refine imp_r ?_ | refine all_imp fun _ => ?_)
theorem mo_suits : MoC c_suits := by
  intro ds P P' m
  unfold c_suits
  repeat' (first | exact id | exact m _ | refine Exists.imp fun _ => ?_ | refine And.imp ?_ ?_ | refine Or.imp ?_ ?_ | refine imp_r ?_ | refine all_imp fun _ => ?_)
theorem mo_within : MoC c_within := by
  intro ds P P' m
  unfold c_within
  repeat' (first | exact id | exact m _ | refine Exists.imp fun _ => ?_ | refine And.imp ?_ ?_ | refine Or.imp ?_ ?_ | refine imp_r ?_ | refine all_imp fun _ => ?_)
theorem mo_too_far : MoC c_too_far := by
  intro ds P P' m
  unfold c_too_far
  repeat' (first | exact id | exact m _ | refine Exists.imp fun _ => ?_ | refine And.imp ?_ ?_ | refine Or.imp ?_ ?_ | refine imp_r ?_ | refine all_imp fun _ => ?_)
theorem mo_good : MoC c_good := by
  intro ds P P' m
  unfold c_good
  repeat' (first | exact id | exact m _ | refine Exists.imp fun _ => ?_ | refine And.imp ?_ ?_ | refine Or.imp ?_ ?_ | refine imp_r ?_ | refine all_imp fun _ => ?_)
theorem mo_weigh : MoC c_weigh := by
  intro ds P P' m
  unfold c_weigh
  repeat' (first | exact id | exact m _ | refine Exists.imp fun _ => ?_ | refine And.imp ?_ ?_ | refine Or.imp ?_ ?_ | refine imp_r ?_ | refine all_imp fun _ => ?_)
theorem mo_grounds_stand : MoC c_grounds_stand := by
  intro ds P P' m
  unfold c_grounds_stand
  repeat' (first | exact id | exact m _ | refine Exists.imp fun _ => ?_ | refine And.imp ?_ ?_ | refine Or.imp ?_ ?_ | refine imp_r ?_ | refine all_imp fun _ => ?_)
theorem mo_admitted : MoC c_admitted := by
  intro ds P P' m
  unfold c_admitted
  repeat' (first | exact id | exact m _ | refine Exists.imp fun _ => ?_ | refine And.imp ?_ ?_ | refine Or.imp ?_ ?_ | refine imp_r ?_ | refine all_imp fun _ => ?_)
theorem mo_judged : MoC c_judged := by
  intro ds P P' m
  unfold c_judged
  repeat' (first | exact id | exact m _ | refine Exists.imp fun _ => ?_ | refine And.imp ?_ ?_ | refine Or.imp ?_ ?_ | refine imp_r ?_ | refine all_imp fun _ => ?_)
theorem mo_shown_or : MoC c_shown_or := by
  intro ds P P' m
  unfold c_shown_or
  repeat' (first | exact id | exact m _ | refine Exists.imp fun _ => ?_ | refine And.imp ?_ ?_ | refine Or.imp ?_ ?_ | refine imp_r ?_ | refine all_imp fun _ => ?_)
theorem mo_cut_made : MoC c_cut_made := by
  intro ds P P' m
  unfold c_cut_made
  repeat' (first | exact id | exact m _ | refine Exists.imp fun _ => ?_ | refine And.imp ?_ ?_ | refine Or.imp ?_ ?_ | refine imp_r ?_ | refine all_imp fun _ => ?_)
theorem mo_telling_of : MoC c_telling_of := by
  intro ds P P' m
  unfold c_telling_of
  repeat' (first | exact id | exact m _ | refine Exists.imp fun _ => ?_ | refine And.imp ?_ ?_ | refine Or.imp ?_ ?_ | refine imp_r ?_ | refine all_imp fun _ => ?_)
theorem mo_law_plus : MoC c_law_plus := by
  intro ds P P' m
  unfold c_law_plus
  repeat' (first | exact id | exact m _ | refine Exists.imp fun _ => ?_ | refine And.imp ?_ ?_ | refine Or.imp ?_ ?_ | refine imp_r ?_ | refine all_imp fun _ => ?_)
theorem mo_law_less : MoC c_law_less := by
  intro ds P P' m
  unfold c_law_less
  repeat' (first | exact id | exact m _ | refine Exists.imp fun _ => ?_ | refine And.imp ?_ ?_ | refine Or.imp ?_ ?_ | refine imp_r ?_ | refine all_imp fun _ => ?_)
theorem mo_law_times : MoC c_law_times := by
  intro ds P P' m
  unfold c_law_times
  repeat' (first | exact id | exact m _ | refine Exists.imp fun _ => ?_ | refine And.imp ?_ ?_ | refine Or.imp ?_ ?_ | refine imp_r ?_ | refine all_imp fun _ => ?_)
theorem mo_law_even : MoC c_law_even := by
  intro ds P P' m
  unfold c_law_even
  repeat' (first | exact id | exact m _ | refine Exists.imp fun _ => ?_ | refine And.imp ?_ ?_ | refine Or.imp ?_ ?_ | refine imp_r ?_ | refine all_imp fun _ => ?_)
theorem mo_law_whole : MoC c_law_whole := by
  intro ds P P' m
  unfold c_law_whole
  repeat' (first | exact id | exact m _ | refine Exists.imp fun _ => ?_ | refine And.imp ?_ ?_ | refine Or.imp ?_ ?_ | refine imp_r ?_ | refine all_imp fun _ => ?_)
theorem mo_law_is_frac : MoC c_law_is_frac := by
  intro ds P P' m
  unfold c_law_is_frac
  repeat' (first | exact id | exact m _ | refine Exists.imp fun _ => ?_ | refine And.imp ?_ ?_ | refine Or.imp ?_ ?_ | refine imp_r ?_ | refine all_imp fun _ => ?_)
theorem mo_law_is_place : MoC c_law_is_place := by
  intro ds P P' m
  unfold c_law_is_place
  repeat' (first | exact id | exact m _ | refine Exists.imp fun _ => ?_ | refine And.imp ?_ ?_ | refine Or.imp ?_ ?_ | refine imp_r ?_ | refine all_imp fun _ => ?_)
theorem mo_law_is_line : MoC c_law_is_line := by
  intro ds P P' m
  unfold c_law_is_line
  repeat' (first | exact id | exact m _ | refine Exists.imp fun _ => ?_ | refine And.imp ?_ ?_ | refine Or.imp ?_ ?_ | refine imp_r ?_ | refine all_imp fun _ => ?_)
theorem mo_law_near : MoC c_law_near := by
  intro ds P P' m
  unfold c_law_near
  repeat' (first | exact id | exact m _ | refine Exists.imp fun _ => ?_ | refine And.imp ?_ ?_ | refine Or.imp ?_ ?_ | refine imp_r ?_ | refine all_imp fun _ => ?_)
theorem mo_law_off : MoC c_law_off := by
  intro ds P P' m
  unfold c_law_off
  repeat' (first | exact id | exact m _ | refine Exists.imp fun _ => ?_ | refine And.imp ?_ ?_ | refine Or.imp ?_ ?_ | refine imp_r ?_ | refine all_imp fun _ => ?_)
theorem mo_law_so : MoC c_law_so := by
  intro ds P P' m
  unfold c_law_so
  repeat' (first | exact id | exact m _ | refine Exists.imp fun _ => ?_ | refine And.imp ?_ ?_ | refine Or.imp ?_ ?_ | refine imp_r ?_ | refine all_imp fun _ => ?_)
theorem mo_law_chord : MoC c_law_chord := by
  intro ds P P' m
  unfold c_law_chord
  repeat' (first | exact id | exact m _ | refine Exists.imp fun _ => ?_ | refine And.imp ?_ ?_ | refine Or.imp ?_ ?_ | refine imp_r ?_ | refine all_imp fun _ => ?_)
theorem mo_law_parts : MoC c_law_parts := by
  intro ds P P' m
  unfold c_law_parts
  repeat' (first | exact id | exact m _ | refine Exists.imp fun _ => ?_ | refine And.imp ?_ ?_ | refine Or.imp ?_ ?_ | refine imp_r ?_ | refine all_imp fun _ => ?_)
theorem mo_law_fail : MoC c_law_fail := by
  intro ds P P' m
  unfold c_law_fail
  repeat' (first | exact id | exact m _ | refine Exists.imp fun _ => ?_ | refine And.imp ?_ ?_ | refine Or.imp ?_ ?_ | refine imp_r ?_ | refine all_imp fun _ => ?_)
theorem mo_law_first : MoC c_law_first := by
  intro ds P P' m
  unfold c_law_first
  repeat' (first | exact id | exact m _ | refine Exists.imp fun _ => ?_ | refine And.imp ?_ ?_ | refine Or.imp ?_ ?_ | refine imp_r ?_ | refine all_imp fun _ => ?_)
theorem mo_law_on_way : MoC c_law_on_way := by
  intro ds P P' m
  unfold c_law_on_way
  repeat' (first | exact id | exact m _ | refine Exists.imp fun _ => ?_ | refine And.imp ?_ ?_ | refine Or.imp ?_ ?_ | refine imp_r ?_ | refine all_imp fun _ => ?_)
theorem mo_law_point : MoC c_law_point := by
  intro ds P P' m
  unfold c_law_point
  repeat' (first | exact id | exact m _ | refine Exists.imp fun _ => ?_ | refine And.imp ?_ ?_ | refine Or.imp ?_ ?_ | refine imp_r ?_ | refine all_imp fun _ => ?_)
theorem mo_law_line_fits : MoC c_law_line_fits := by
  intro ds P P' m
  unfold c_law_line_fits
  repeat' (first | exact id | exact m _ | refine Exists.imp fun _ => ?_ | refine And.imp ?_ ?_ | refine Or.imp ?_ ?_ | refine imp_r ?_ | refine all_imp fun _ => ?_)
theorem mo_law_fits : MoC c_law_fits := by
  intro ds P P' m
  unfold c_law_fits
  repeat' (first | exact id | exact m _ | refine Exists.imp fun _ => ?_ | refine And.imp ?_ ?_ | refine Or.imp ?_ ?_ | refine imp_r ?_ | refine all_imp fun _ => ?_)
theorem mo_made_of : MoC c_made_of := by
  intro ds P P' m
  unfold c_made_of
  repeat' (first | exact id | exact m _ | refine Exists.imp fun _ => ?_ | refine And.imp ?_ ?_ | refine Or.imp ?_ ?_ | refine imp_r ?_ | refine all_imp fun _ => ?_)
theorem mo_det1 : MoC c_det1 := by
  intro ds P P' m
  unfold c_det1
  repeat' (first | exact id | exact m _ | refine Exists.imp fun _ => ?_ | refine And.imp ?_ ?_ | refine Or.imp ?_ ?_ | refine imp_r ?_ | refine all_imp fun _ => ?_)
theorem mo_det2 : MoC c_det2 := by
  intro ds P P' m
  unfold c_det2
  repeat' (first | exact id | exact m _ | refine Exists.imp fun _ => ?_ | refine And.imp ?_ ?_ | refine Or.imp ?_ ?_ | refine imp_r ?_ | refine all_imp fun _ => ?_)
theorem mo_det3 : MoC c_det3 := by
  intro ds P P' m
  unfold c_det3
  repeat' (first | exact id | exact m _ | refine Exists.imp fun _ => ?_ | refine And.imp ?_ ?_ | refine Or.imp ?_ ?_ | refine imp_r ?_ | refine all_imp fun _ => ?_)
theorem mo_det4 : MoC c_det4 := by
  intro ds P P' m
  unfold c_det4
  repeat' (first | exact id | exact m _ | refine Exists.imp fun _ => ?_ | refine And.imp ?_ ?_ | refine Or.imp ?_ ?_ | refine imp_r ?_ | refine all_imp fun _ => ?_)
def c_det12 : Ct := fun ds Q => c_det1 ds Q ∨ c_det2 ds Q
def c_det23 : Ct := fun ds Q => c_det2 ds Q ∨ c_det3 ds Q
theorem mo_det12 : MoC c_det12 := fun ds P P' m => Or.imp (mo_det1 ds P P' m) (mo_det2 ds P P' m)
theorem mo_det23 : MoC c_det23 := fun ds P P' m => Or.imp (mo_det2 ds P P' m) (mo_det3 ds P P' m)
theorem mo_det34 : MoC c_det34 := fun ds P P' m => Or.imp (mo_det3 ds P P' m) (mo_det4 ds P P' m)
theorem H_divisor (F : Fx w K mg) : Has P w K mg base 1 "divisor" 2 c_divisor :=
  has_of F.d_divisor sc_divisor rfl (fun _ _ _ _ _ _ us hl => match us, hl with | [_, _], _ => rfl) mo_divisor (fun f cdv A outer s H E hr => der_divisor F.m_abs f cdv A outer s H E hr) rd_divisor
theorem H_fraction (F : Fx w K mg) : Has P w K mg base 2 "fraction" 2 c_fraction :=
  has_of F.d_fraction sc_fraction rfl (fun _ _ _ _ _ _ us hl => match us, hl with | [_, _], _ => rfl) mo_fraction (fun f cdv A outer s H E hr => der_fraction (H_divisor F) f cdv A outer s H E hr) rd_fraction
theorem H_plus (F : Fx w K mg) : Has P w K mg base 3 "plus" 2 c_plus :=
  has_of F.d_plus sc_plus rfl (fun _ _ _ _ _ _ us hl => match us, hl with | [_, _], _ => rfl) mo_plus (fun f cdv A outer s H E hr => der_plus (H_fraction F) f cdv A outer s H E hr) rd_plus
theorem H_times (F : Fx w K mg) : Has P w K mg base 3 "times" 2 c_times :=
  has_of F.d_times sc_times rfl (fun _ _ _ _ _ _ us hl => match us, hl with | [_, _], _ => rfl) mo_times (fun f cdv A outer s H E hr => der_times (H_fraction F) f cdv A outer s H E hr) rd_times
theorem H_minus (F : Fx w K mg) : Has P w K mg base 3 "minus" 2 c_minus :=
  has_of F.d_minus sc_minus rfl (fun _ _ _ _ _ _ us hl => match us, hl with | [_, _], _ => rfl) mo_minus (fun f cdv A outer s H E hr => der_minus (H_fraction F) f cdv A outer s H E hr) rd_minus
theorem H_share (F : Fx w K mg) : Has P w K mg base 4 "share" 3 c_share :=
  has_of F.d_share sc_share rfl (fun _ _ _ _ _ _ us hl => match us, hl with | [_, _, _], _ => rfl) mo_share (fun f cdv A outer s H E hr => der_share (H_plus F) (H_times F) (H_minus F) f cdv A outer s H E hr) rd_share
theorem H_middle (F : Fx w K mg) : Has P w K mg base 5 "middle" 2 c_middle :=
  has_of F.d_middle sc_middle rfl (fun _ _ _ _ _ _ us hl => match us, hl with | [_, _], _ => rfl) mo_middle (fun f cdv A outer s H E hr => der_middle (H_share F) f cdv A outer s H E hr) rd_middle
theorem H_beyond (F : Fx w K mg) : Has P w K mg base 5 "beyond" 2 c_beyond :=
  has_of F.d_beyond sc_beyond rfl (fun _ _ _ _ _ _ us hl => match us, hl with | [_, _], _ => rfl) mo_beyond (fun f cdv A outer s H E hr => der_beyond (H_share F) f cdv A outer s H E hr) rd_beyond
theorem H_turned (F : Fx w K mg) : Has P w K mg base 4 "turned" 2 c_turned :=
  has_of F.d_turned sc_turned rfl (fun _ _ _ _ _ _ us hl => match us, hl with | [_, _], _ => rfl) mo_turned (fun f cdv A outer s H E hr => der_turned (H_plus F) (H_minus F) f cdv A outer s H E hr) rd_turned
theorem H_meet (F : Fx w K mg) : Has P w K mg base 3 "meet" 2 c_meet :=
  has_of F.d_meet sc_meet rfl (fun _ _ _ _ _ _ us hl => match us, hl with | [_, _], _ => rfl) mo_meet (fun f cdv A outer s H E hr => der_meet (H_fraction F) f cdv A outer s H E hr) rd_meet
theorem H_one_form (F : Fx w K mg) : Has P w K mg base 2 "one_form" 3 c_one_form :=
  has_of F.d_one_form sc_one_form rfl (fun _ _ _ _ _ _ us hl => match us, hl with | [_, _, _], _ => rfl) mo_one_form (fun f cdv A outer s H E hr => der_one_form (H_divisor F) f cdv A outer s H E hr) rd_one_form
theorem H_over_one (F : Fx w K mg) : Has P w K mg base 1 "over_one" 1 c_over_one :=
  has_of F.d_over_one sc_over_one rfl (fun _ _ _ _ _ _ us hl => match us, hl with | [_], _ => rfl) mo_over_one (fun f cdv A outer s H E hr => der_over_one  f cdv A outer s H E hr) rd_over_one
theorem H_upright (F : Fx w K mg) : Has P w K mg base 3 "upright" 2 c_upright :=
  has_of F.d_upright sc_upright rfl (fun _ _ _ _ _ _ us hl => match us, hl with | [_, _], _ => rfl) mo_upright (fun f cdv A outer s H E hr => der_upright (H_one_form F) (H_over_one F) f cdv A outer s H E hr) rd_upright
theorem H_foot (F : Fx w K mg) : Has P w K mg base 4 "foot" 2 c_foot :=
  has_of F.d_foot sc_foot rfl (fun _ _ _ _ _ _ us hl => match us, hl with | [_, _], _ => rfl) mo_foot (fun f cdv A outer s H E hr => der_foot (H_meet F) (H_upright F) f cdv A outer s H E hr) rd_foot
theorem H_mirror (F : Fx w K mg) : Has P w K mg base 6 "mirror" 2 c_mirror :=
  has_of F.d_mirror sc_mirror rfl (fun _ _ _ _ _ _ us hl => match us, hl with | [_, _], _ => rfl) mo_mirror (fun f cdv A outer s H E hr => der_mirror (H_beyond F) (H_foot F) f cdv A outer s H E hr) rd_mirror
theorem H_through (F : Fx w K mg) : Has P w K mg base 3 "through" 2 c_through :=
  has_of F.d_through sc_through rfl (fun _ _ _ _ _ _ us hl => match us, hl with | [_, _], _ => rfl) mo_through (fun f cdv A outer s H E hr => der_through (H_one_form F) (H_over_one F) f cdv A outer s H E hr) rd_through
theorem H_along (F : Fx w K mg) : Has P w K mg base 3 "along" 2 c_along :=
  has_of F.d_along sc_along rfl (fun _ _ _ _ _ _ us hl => match us, hl with | [_, _], _ => rfl) mo_along (fun f cdv A outer s H E hr => der_along (H_one_form F) (H_over_one F) f cdv A outer s H E hr) rd_along
def nPLACES : List (Str × Str) := [("middle", "middle"), ("next", "beyond"), ("turn", "turned"), ("foot", "foot"), ("mirror", "mirror")]
def nLINES : List (Str × Str) := [("line", "through"), ("along", "along"), ("upright", "upright")]
theorem ftab_of {k n : Nat} {x : Str} {N : List (Str × Str)} {G : Str → Option Ct} (T : NTab w K mg x N) (h0 : ∀ z, N.lookup z = none → G z = none) (h1 : ∀ z y f, N.lookup z = some y → mg y = some (.ref f) → ∃ C, G z = some C ∧ HeldD P w K mg base k f n C) : FTab P w K mg base k x n G := by
  obtain ⟨a, es, nn, hm, hk, h⟩ := T.ex
  refine ⟨a, es, nn, hm, hk, fun key => ?_⟩
  rcases h key with ⟨e1, e2⟩ | ⟨y, f, e1, e2, e3⟩
  · exact .inl ⟨h0 _ e1, e2⟩
  · obtain ⟨C, g1, g2⟩ := h1 _ _ _ e1 e2
    exact .inr ⟨C, f, g1, e3, g2⟩
theorem lk_if {z k v : Str} {l : List (Str × Str)} : List.lookup z ((k, v) :: l) = if z = k then some v else List.lookup z l := by
  rw [List.lookup_cons]
  by_cases h : z = k
  · subst h; rw [if_pos rfl]; simp
  · rw [if_neg h, show (z == k) = false from beq_eq_false_iff_ne.mpr h]
theorem lk_nil {z : Str} : List.lookup z ([] : List (Str × Str)) = none := rfl
theorem T_PLACES (F : Fx w K mg) (T : NTab w K mg "PLACES" nPLACES) : FTab P w K mg base 6 "PLACES" 2 F_PLACES := by
  refine ftab_of T (fun z e => ?_) (fun z y f e hm => ?_)
  · unfold nPLACES at e
    rw [lk_if, lk_if, lk_if, lk_if, lk_if, lk_nil] at e
    unfold F_PLACES
    by_cases h_middle : z = "middle"
    · rw [if_pos h_middle] at e; cases e
    rw [if_neg h_middle] at e ⊢
    by_cases h_next : z = "next"
    · rw [if_pos h_next] at e; cases e
    rw [if_neg h_next] at e ⊢
    by_cases h_turn : z = "turn"
    · rw [if_pos h_turn] at e; cases e
    rw [if_neg h_turn] at e ⊢
    by_cases h_foot : z = "foot"
    · rw [if_pos h_foot] at e; cases e
    rw [if_neg h_foot] at e ⊢
    by_cases h_mirror : z = "mirror"
    · rw [if_pos h_mirror] at e; cases e
    rw [if_neg h_mirror] at e ⊢
  · unfold nPLACES at e
    rw [lk_if, lk_if, lk_if, lk_if, lk_if, lk_nil] at e
    unfold F_PLACES
    by_cases h_middle : z = "middle"
    · rw [if_pos h_middle] at e ⊢
      cases e
      exact ⟨_, rfl, ((H_middle F).up (by decide)).held hm⟩
    rw [if_neg h_middle] at e ⊢
    by_cases h_next : z = "next"
    · rw [if_pos h_next] at e ⊢
      cases e
      exact ⟨_, rfl, ((H_beyond F).up (by decide)).held hm⟩
    rw [if_neg h_next] at e ⊢
    by_cases h_turn : z = "turn"
    · rw [if_pos h_turn] at e ⊢
      cases e
      exact ⟨_, rfl, ((H_turned F).up (by decide)).held hm⟩
    rw [if_neg h_turn] at e ⊢
    by_cases h_foot : z = "foot"
    · rw [if_pos h_foot] at e ⊢
      cases e
      exact ⟨_, rfl, ((H_foot F).up (by decide)).held hm⟩
    rw [if_neg h_foot] at e ⊢
    by_cases h_mirror : z = "mirror"
    · rw [if_pos h_mirror] at e ⊢
      cases e
      exact ⟨_, rfl, ((H_mirror F).up (by decide)).held hm⟩
    rw [if_neg h_mirror] at e ⊢
    cases e
theorem T_LINES (F : Fx w K mg) (T : NTab w K mg "LINES" nLINES) : FTab P w K mg base 6 "LINES" 2 F_LINES := by
  refine ftab_of T (fun z e => ?_) (fun z y f e hm => ?_)
  · unfold nLINES at e
    rw [lk_if, lk_if, lk_if, lk_nil] at e
    unfold F_LINES
    by_cases h_line : z = "line"
    · rw [if_pos h_line] at e; cases e
    rw [if_neg h_line] at e ⊢
    by_cases h_along : z = "along"
    · rw [if_pos h_along] at e; cases e
    rw [if_neg h_along] at e ⊢
    by_cases h_upright : z = "upright"
    · rw [if_pos h_upright] at e; cases e
    rw [if_neg h_upright] at e ⊢
  · unfold nLINES at e
    rw [lk_if, lk_if, lk_if, lk_nil] at e
    unfold F_LINES
    by_cases h_line : z = "line"
    · rw [if_pos h_line] at e ⊢
      cases e
      exact ⟨_, rfl, ((H_through F).up (by decide)).held hm⟩
    rw [if_neg h_line] at e ⊢
    by_cases h_along : z = "along"
    · rw [if_pos h_along] at e ⊢
      cases e
      exact ⟨_, rfl, ((H_along F).up (by decide)).held hm⟩
    rw [if_neg h_along] at e ⊢
    by_cases h_upright : z = "upright"
    · rw [if_pos h_upright] at e ⊢
      cases e
      exact ⟨_, rfl, ((H_upright F).up (by decide)).held hm⟩
    rw [if_neg h_upright] at e ⊢
    cases e
theorem H_over (F : Fx w K mg) : Has P w K mg base 3 "over" 2 c_over :=
  has_of F.d_over sc_over rfl (fun _ _ _ _ _ _ us hl => match us, hl with | [_, _], _ => rfl) mo_over (fun f cdv A outer s H E hr => der_over (H_fraction F) f cdv A outer s H E hr) rd_over
theorem H_less (F : Fx w K mg) : Has P w K mg base 1 "less" 2 c_less :=
  has_of F.d_less sc_less rfl (fun _ _ _ _ _ _ us hl => match us, hl with | [_, _], _ => rfl) mo_less (fun f cdv A outer s H E hr => der_less  f cdv A outer s H E hr) rd_less
theorem H_whole_root (F : Fx w K mg) : Has P w K mg base 1 "whole_root" 1 c_whole_root :=
  has_of F.d_whole_root sc_whole_root rfl (fun _ _ _ _ _ _ us hl => match us, hl with | [_], _ => rfl) mo_whole_root (fun f cdv A outer s H E hr => der_whole_root  f cdv A outer s H E hr) rd_whole_root
theorem H_root (F : Fx w K mg) : Has P w K mg base 2 "root" 1 c_root :=
  has_of F.d_root sc_root rfl (fun _ _ _ _ _ _ us hl => match us, hl with | [_], _ => rfl) mo_root (fun f cdv A outer s H E hr => der_root (H_whole_root F) f cdv A outer s H E hr) rd_root
theorem H_square_between (F : Fx w K mg) : Has P w K mg base 4 "square_between" 2 c_square_between :=
  has_of F.d_square_between sc_square_between rfl (fun _ _ _ _ _ _ us hl => match us, hl with | [_, _], _ => rfl) mo_square_between (fun f cdv A outer s H E hr => der_square_between (H_plus F) (H_times F) (H_minus F) f cdv A outer s H E hr) rd_square_between
theorem H_about (F : Fx w K mg) : Has P w K mg base 5 "about" 2 c_about :=
  has_of F.d_about sc_about rfl (fun _ _ _ _ _ _ us hl => match us, hl with | [_, _], _ => rfl) mo_about (fun f cdv A outer s H E hr => der_about (H_square_between F) f cdv A outer s H E hr) rd_about
theorem H_ahead (F : Fx w K mg) : Has P w K mg base 2 "ahead" 2 c_ahead :=
  has_of F.d_ahead sc_ahead rfl (fun _ _ _ _ _ _ us hl => match us, hl with | [_, _], _ => rfl) mo_ahead (fun f cdv A outer s H E hr => der_ahead (H_less F) f cdv A outer s H E hr) rd_ahead
theorem H_line_cuts (F : Fx w K mg) : Has P w K mg base 4 "line_cuts" 2 c_line_cuts :=
  has_of F.d_line_cuts sc_line_cuts rfl (fun _ _ _ _ _ _ us hl => match us, hl with | [_, _], _ => rfl) mo_line_cuts (fun f cdv A outer s H E hr => der_line_cuts (H_ahead F) (H_plus F) (H_minus F) (H_over F) (H_times F) (H_root F) (H_less F) f cdv A outer s H E hr) rd_line_cuts
theorem H_between_line (F : Fx w K mg) : Has P w K mg base 4 "between_line" 2 c_between_line :=
  has_of F.d_between_line sc_between_line rfl (fun _ _ _ _ _ _ us hl => match us, hl with | [_, _], _ => rfl) mo_between_line (fun f cdv A outer s H E hr => der_between_line (H_one_form F) (H_minus F) (H_plus F) (H_times F) f cdv A outer s H E hr) rd_between_line
theorem H_ring_cuts (F : Fx w K mg) : Has P w K mg base 5 "ring_cuts" 2 c_ring_cuts :=
  has_of F.d_ring_cuts sc_ring_cuts rfl (fun _ _ _ _ _ _ us hl => match us, hl with | [_, _], _ => rfl) mo_ring_cuts (fun f cdv A outer s H E hr => der_ring_cuts (H_line_cuts F) (H_between_line F) f cdv A outer s H E hr) rd_ring_cuts
theorem H_cross (F : Fx w K mg) : Has P w K mg base 4 "cross" 3 c_cross :=
  has_of F.d_cross sc_cross rfl (fun _ _ _ _ _ _ us hl => match us, hl with | [_, _, _], _ => rfl) mo_cross (fun f cdv A outer s H E hr => der_cross (H_minus F) (H_times F) f cdv A outer s H E hr) rd_cross
theorem H_in_line (F : Fx w K mg) : Has P w K mg base 5 "in_line" 3 c_in_line :=
  has_of F.d_in_line sc_in_line rfl (fun _ _ _ _ _ _ us hl => match us, hl with | [_, _, _], _ => rfl) mo_in_line (fun f cdv A outer s H E hr => der_in_line (H_cross F) f cdv A outer s H E hr) rd_in_line
theorem H_side_by_side (F : Fx w K mg) : Has P w K mg base 1 "side_by_side" 2 c_side_by_side :=
  has_of F.d_side_by_side sc_side_by_side rfl (fun _ _ _ _ _ _ us hl => match us, hl with | [_, _], _ => rfl) mo_side_by_side (fun f cdv A outer s H E hr => der_side_by_side  f cdv A outer s H E hr) rd_side_by_side
theorem H_square_on (F : Fx w K mg) : Has P w K mg base 1 "square_on" 2 c_square_on :=
  has_of F.d_square_on sc_square_on rfl (fun _ _ _ _ _ _ us hl => match us, hl with | [_, _], _ => rfl) mo_square_on (fun f cdv A outer s H E hr => der_square_on  f cdv A outer s H E hr) rd_square_on
theorem H_all_round (F : Fx w K mg) : Has P w K mg base 5 "all_round" 4 c_all_round :=
  has_of F.d_all_round sc_all_round rfl (fun _ _ _ _ _ _ us hl => match us, hl with | [_, _, _, _], _ => rfl) mo_all_round (fun f cdv A outer s H E hr => der_all_round (H_plus F) (H_times F) (H_cross F) (H_square_between F) f cdv A outer s H E hr) rd_all_round
theorem H_as_far (F : Fx w K mg) : Has P w K mg base 5 "as_far" 4 c_as_far :=
  has_of F.d_as_far sc_as_far rfl (fun _ _ _ _ _ _ us hl => match us, hl with | [_, _, _, _], _ => rfl) mo_as_far (fun f cdv A outer s H E hr => der_as_far (H_square_between F) f cdv A outer s H E hr) rd_as_far
theorem H_sort_of (F : Fx w K mg) : Has P w K mg base 1 "sort_of" 1 c_sort_of :=
  has_of F.d_sort_of sc_sort_of rfl (fun _ _ _ _ _ _ us hl => match us, hl with | [_], _ => rfl) mo_sort_of (fun f cdv A outer s H E hr => der_sort_of F.T_SORTS f cdv A outer s H E hr) rd_sort_of
theorem H_grounds (F : Fx w K mg) : Has P w K mg base 1 "grounds" 1 c_grounds :=
  has_of F.d_grounds sc_grounds rfl (fun _ _ _ _ _ _ us hl => match us, hl with | [_], _ => rfl) mo_grounds (fun f cdv A outer s H E hr => der_grounds F.m_list F.m_len F.T_ASKED f cdv A outer s H E hr) rd_grounds
theorem H_asked_sorts (F : Fx w K mg) : Has P w K mg base 1 "asked_sorts" 1 c_asked_sorts :=
  has_of F.d_asked_sorts sc_asked_sorts rfl (fun _ _ _ _ _ _ us hl => match us, hl with | [_], _ => rfl) mo_asked_sorts (fun f cdv A outer s H E hr => der_asked_sorts F.m_list F.T_ASKED f cdv A outer s H E hr) rd_asked_sorts
theorem H_suits (F : Fx w K mg) : Has P w K mg base 1 "suits" 2 c_suits :=
  has_of F.d_suits sc_suits rfl (fun _ _ _ _ _ _ us hl => match us, hl with | [_, _], _ => rfl) mo_suits (fun f cdv A outer s H E hr => der_suits  f cdv A outer s H E hr) rd_suits
theorem H_within (F : Fx w K mg) : Has P w K mg base 1 "within" 2 c_within :=
  has_of F.d_within sc_within rfl (fun _ _ _ _ _ _ us hl => match us, hl with | [_, _], _ => rfl) mo_within (fun f cdv A outer s H E hr => der_within F.m_abs f cdv A outer s H E hr) rd_within
theorem H_too_far (F : Fx w K mg) : Has P w K mg base 2 "too_far" 1 c_too_far :=
  has_of F.d_too_far sc_too_far rfl (fun _ _ _ _ _ _ us hl => match us, hl with | [_], _ => rfl) mo_too_far (fun f cdv A outer s H E hr => der_too_far (H_within F) F.g_SHARE_MOST F.g_FREE_MOST f cdv A outer s H E hr) rd_too_far
theorem H_good (F : Fx w K mg) : Has P w K mg base 1 "good" 1 c_good :=
  has_of F.d_good sc_good rfl (fun _ _ _ _ _ _ us hl => match us, hl with | [_], _ => rfl) mo_good (fun f cdv A outer s H E hr => der_good F.g_LETTERS F.g_FIGURES F.m_len f cdv A outer s H E hr) rd_good
theorem H_weigh (F : Fx w K mg) : Has P w K mg base 2 "weigh" 3 c_weigh :=
  has_of F.d_weigh sc_weigh rfl (fun _ _ _ _ _ _ us hl => match us, hl with | [_, _, _], _ => rfl) mo_weigh (fun f cdv A outer s H E hr => der_weigh F.m_sum (H_grounds F) f cdv A outer s H E hr) rd_weigh
theorem H_grounds_stand (F : Fx w K mg) : Has P w K mg base 2 "grounds_stand" 2 c_grounds_stand :=
  has_of F.d_grounds_stand sc_grounds_stand rfl (fun _ _ _ _ _ _ us hl => match us, hl with | [_, _], _ => rfl) mo_grounds_stand (fun f cdv A outer s H E hr => der_grounds_stand (H_suits F) F.m_zip (H_asked_sorts F) (H_grounds F) f cdv A outer s H E hr) rd_grounds_stand
theorem H_admitted (F : Fx w K mg) : Has P w K mg base 3 "admitted" 4 c_admitted :=
  has_of F.d_admitted sc_admitted rfl (fun _ _ _ _ _ _ us hl => match us, hl with | [_, _, _, _], _ => rfl) mo_admitted (fun f cdv A outer s H E hr => der_admitted F.g_MOST (H_weigh F) (H_too_far F) (H_grounds_stand F) (H_good F) f cdv A outer s H E hr) rd_admitted
theorem H_judged (F : Fx w K mg) : Has P w K mg base 6 "judged" 2 c_judged :=
  has_of F.d_judged sc_judged rfl (fun _ _ _ _ _ _ us hl => match us, hl with | [_, _], _ => rfl) mo_judged (fun f cdv A outer s H E hr => der_judged (H_square_on F) (H_side_by_side F) (H_as_far F) (H_all_round F) (H_in_line F) f cdv A outer s H E hr) rd_judged
theorem H_shown_or (F : Fx w K mg) : Has P w K mg base 1 "shown_or" 3 c_shown_or :=
  has_of F.d_shown_or sc_shown_or rfl (fun _ _ _ _ _ _ us hl => match us, hl with | [_, _, _], _ => rfl) mo_shown_or (fun f cdv A outer s H E hr => der_shown_or  f cdv A outer s H E hr) rd_shown_or
theorem H_cut_made (F : Fx w K mg) : Has P w K mg base 6 "cut_made" 3 c_cut_made :=
  has_of F.d_cut_made sc_cut_made rfl (fun _ _ _ _ _ _ us hl => match us, hl with | [_, _, _], _ => rfl) mo_cut_made (fun f cdv A outer s H E hr => der_cut_made (H_line_cuts F) (H_ring_cuts F) f cdv A outer s H E hr) rd_cut_made
theorem H_made_of (F : Fx w K mg) (TP : NTab w K mg "PLACES" nPLACES) (TL : NTab w K mg "LINES" nLINES) : Has P w K mg base 7 "made_of" 2 c_made_of :=
  has_of F.d_made_of sc_made_of rfl (fun _ _ _ _ _ _ us hl => match us, hl with | [_, _], _ => rfl) mo_made_of (fun f cdv A outer s H E hr => der_made_of (H_judged F) (H_shown_or F) (H_about F) (T_LINES F TL) (H_cut_made F) (H_meet F) (H_share F) (T_PLACES F TP) (H_grounds F) f cdv A outer s H E hr) rd_made_of
theorem H_telling_of (F : Fx w K mg) (TP : NTab w K mg "PLACES" nPLACES) (TL : NTab w K mg "LINES" nLINES) : Has P w K mg base 8 "telling_of" 4 c_telling_of :=
  has_of F.d_telling_of sc_telling_of rfl (fun _ _ _ _ _ _ us hl => match us, hl with | [_, _, _, _], _ => rfl) mo_telling_of (fun f cdv A outer s H E hr => der_telling_of F.m_len (H_made_of F TP TL) (H_grounds F) f cdv A outer s H E hr) rd_telling_of
theorem H_law_gcd (F : Fx w K mg) : Has P w K mg base 1 "_law_gcd" 2 c_divisor :=
  has_of F.d_law_gcd sc_law_gcd rfl (fun _ _ _ _ _ _ us hl => match us, hl with | [_, _], _ => rfl) mo_divisor (fun f cdv A outer s H E hr => der_law_gcd F.m_abs f cdv A outer s H E hr) rd_law_gcd
theorem H_law_low (F : Fx w K mg) : Has P w K mg base 2 "_law_low" 2 c_fraction :=
  has_of F.d_law_low sc_law_low rfl (fun _ _ _ _ _ _ us hl => match us, hl with | [_, _], _ => rfl) mo_fraction (fun f cdv A outer s H E hr => der_law_low (H_law_gcd F) f cdv A outer s H E hr) rd_law_low
theorem H_law_plus (F : Fx w K mg) : Has P w K mg base 1 "_law_plus" 2 c_law_plus :=
  has_of F.d_law_plus sc_law_plus rfl (fun _ _ _ _ _ _ us hl => match us, hl with | [_, _], _ => rfl) mo_law_plus (fun f cdv A outer s H E hr => der_law_plus  f cdv A outer s H E hr) rd_law_plus
theorem H_law_less (F : Fx w K mg) : Has P w K mg base 1 "_law_less" 2 c_law_less :=
  has_of F.d_law_less sc_law_less rfl (fun _ _ _ _ _ _ us hl => match us, hl with | [_, _], _ => rfl) mo_law_less (fun f cdv A outer s H E hr => der_law_less  f cdv A outer s H E hr) rd_law_less
theorem H_law_times (F : Fx w K mg) : Has P w K mg base 1 "_law_times" 2 c_law_times :=
  has_of F.d_law_times sc_law_times rfl (fun _ _ _ _ _ _ us hl => match us, hl with | [_, _], _ => rfl) mo_law_times (fun f cdv A outer s H E hr => der_law_times  f cdv A outer s H E hr) rd_law_times
theorem H_law_even (F : Fx w K mg) : Has P w K mg base 1 "_law_even" 2 c_law_even :=
  has_of F.d_law_even sc_law_even rfl (fun _ _ _ _ _ _ us hl => match us, hl with | [_, _], _ => rfl) mo_law_even (fun f cdv A outer s H E hr => der_law_even  f cdv A outer s H E hr) rd_law_even
theorem H_law_whole (F : Fx w K mg) : Has P w K mg base 1 "_law_whole" 1 c_law_whole :=
  has_of F.d_law_whole sc_law_whole rfl (fun _ _ _ _ _ _ us hl => match us, hl with | [_], _ => rfl) mo_law_whole (fun f cdv A outer s H E hr => der_law_whole F.m_isinstance F.m_int F.m_bool f cdv A outer s H E hr) rd_law_whole
theorem H_law_is_frac (F : Fx w K mg) : Has P w K mg base 2 "_law_is_frac" 1 c_law_is_frac :=
  has_of F.d_law_is_frac sc_law_is_frac rfl (fun _ _ _ _ _ _ us hl => match us, hl with | [_], _ => rfl) mo_law_is_frac (fun f cdv A outer s H E hr => der_law_is_frac (H_law_gcd F) (H_law_whole F) F.m_isinstance F.m_tuple F.m_len f cdv A outer s H E hr) rd_law_is_frac
theorem H_law_is_place (F : Fx w K mg) : Has P w K mg base 3 "_law_is_place" 1 c_law_is_place :=
  has_of F.d_law_is_place sc_law_is_place rfl (fun _ _ _ _ _ _ us hl => match us, hl with | [_], _ => rfl) mo_law_is_place (fun f cdv A outer s H E hr => der_law_is_place F.m_isinstance F.m_tuple F.m_len (H_law_is_frac F) f cdv A outer s H E hr) rd_law_is_place
theorem H_law_is_line (F : Fx w K mg) : Has P w K mg base 2 "_law_is_line" 1 c_law_is_line :=
  has_of F.d_law_is_line sc_law_is_line rfl (fun _ _ _ _ _ _ us hl => match us, hl with | [_], _ => rfl) mo_law_is_line (fun f cdv A outer s H E hr => der_law_is_line (H_law_gcd F) (H_law_whole F) F.m_isinstance F.m_tuple F.m_len f cdv A outer s H E hr) rd_law_is_line
theorem H_law_grounds (F : Fx w K mg) : Has P w K mg base 1 "_law_grounds" 1 c_grounds :=
  has_of F.d_law_grounds sc_law_grounds rfl (fun _ _ _ _ _ _ us hl => match us, hl with | [_], _ => rfl) mo_grounds (fun f cdv A outer s H E hr => der_law_grounds F.m_list f cdv A outer s H E hr) rd_law_grounds
theorem H_law_sort (F : Fx w K mg) : Has P w K mg base 1 "_law_sort" 1 c_sort_of :=
  has_of F.d_law_sort sc_law_sort rfl (fun _ _ _ _ _ _ us hl => match us, hl with | [_], _ => rfl) mo_sort_of (fun f cdv A outer s H E hr => der_law_sort  f cdv A outer s H E hr) rd_law_sort
theorem H_law_weight (F : Fx w K mg) : Has P w K mg base 2 "_law_weight" 3 c_weigh :=
  has_of F.d_law_weight sc_law_weight rfl (fun _ _ _ _ _ _ us hl => match us, hl with | [_, _, _], _ => rfl) mo_weigh (fun f cdv A outer s H E hr => der_law_weight F.m_sum (H_law_grounds F) f cdv A outer s H E hr) rd_law_weight
theorem H_law_near (F : Fx w K mg) : Has P w K mg base 2 "_law_near" 2 c_law_near :=
  has_of F.d_law_near sc_law_near rfl (fun _ _ _ _ _ _ us hl => match us, hl with | [_, _], _ => rfl) mo_law_near (fun f cdv A outer s H E hr => der_law_near (H_law_plus F) (H_law_times F) (H_law_less F) f cdv A outer s H E hr) rd_law_near
theorem H_law_off (F : Fx w K mg) : Has P w K mg base 2 "_law_off" 2 c_law_off :=
  has_of F.d_law_off sc_law_off rfl (fun _ _ _ _ _ _ us hl => match us, hl with | [_, _], _ => rfl) mo_law_off (fun f cdv A outer s H E hr => der_law_off (H_law_less F) (H_law_plus F) (H_law_times F) f cdv A outer s H E hr) rd_law_off
theorem H_det1 (F : Fx w K mg) : Has P w K mg base 3 "_law_det" 1 c_det1 :=
  has_of F.d_law_det sc_law_det rfl (fun _ _ _ _ _ _ us hl => match us, hl with | [_], _ => rfl) mo_det1 (fun f cdv A outer s H E hr => der_law_det (k := 2) ((H_law_low F).up (by decide)) ((H_law_plus F).up (by decide)) ((H_law_less F).up (by decide)) ((H_law_times F).up (by decide)) (has_false F.d_law_det sc_law_det (fun _ _ _ _ _ _ us hl => match us, hl with | [_], _ => rfl)) F.m_range F.m_len f cdv A outer s H E hr) (fun ds Q hl h => rd_det1 ds Q hl h)
theorem H_det12 (F : Fx w K mg) : Has P w K mg base 4 "_law_det" 1 c_det12 :=
  has_of F.d_law_det sc_law_det rfl (fun _ _ _ _ _ _ us hl => match us, hl with | [_], _ => rfl) mo_det12 (fun f cdv A outer s H E hr => der_law_det (k := 3) ((H_law_low F).up (by decide)) ((H_law_plus F).up (by decide)) ((H_law_less F).up (by decide)) ((H_law_times F).up (by decide)) (H_det1 F) F.m_range F.m_len f cdv A outer s H E hr) (fun ds Q hl h => h.elim (fun h => rd_det1 ds Q hl h) (fun h => rd_det2 (fun _ _ h => h) ds Q hl h))
theorem H_det23 (F : Fx w K mg) : Has P w K mg base 5 "_law_det" 1 c_det23 :=
  has_of F.d_law_det sc_law_det rfl (fun _ _ _ _ _ _ us hl => match us, hl with | [_], _ => rfl) mo_det23 (fun f cdv A outer s H E hr => der_law_det (k := 4) ((H_law_low F).up (by decide)) ((H_law_plus F).up (by decide)) ((H_law_less F).up (by decide)) ((H_law_times F).up (by decide)) (H_det12 F) F.m_range F.m_len f cdv A outer s H E hr) (fun ds Q hl h => h.elim (fun h => rd_det2 (fun _ _ h => .inl h) ds Q hl h) (fun h => rd_det3 (fun _ _ h => .inr h) ds Q hl h))
theorem H_law_det (F : Fx w K mg) : Has P w K mg base 6 "_law_det" 1 c_det34 :=
  has_of F.d_law_det sc_law_det rfl (fun _ _ _ _ _ _ us hl => match us, hl with | [_], _ => rfl) mo_det34 (fun f cdv A outer s H E hr => der_law_det (k := 5) ((H_law_low F).up (by decide)) ((H_law_plus F).up (by decide)) ((H_law_less F).up (by decide)) ((H_law_times F).up (by decide)) (H_det23 F) F.m_range F.m_len f cdv A outer s H E hr) (fun ds Q hl h => h.elim (fun h => rd_det3 (fun _ _ h => .inl h) ds Q hl h) (fun h => rd_det4 (fun _ _ h => .inr h) ds Q hl h))
theorem H_law_so (F : Fx w K mg) : Has P w K mg base 7 "_law_so" 2 c_law_so :=
  has_of F.d_law_so sc_law_so rfl (fun _ _ _ _ _ _ us hl => match us, hl with | [_, _], _ => rfl) mo_law_so (fun f cdv A outer s H E hr => der_law_so (H_law_even F) (H_law_near F) (H_law_det F) F.m_range (H_law_plus F) (H_law_times F) (H_law_grounds F) f cdv A outer s H E hr) rd_law_so
theorem H_law_root (F : Fx w K mg) : Has P w K mg base 1 "_law_root" 1 c_whole_root :=
  has_of F.d_law_root sc_law_root rfl (fun _ _ _ _ _ _ us hl => match us, hl with | [_], _ => rfl) mo_whole_root (fun f cdv A outer s H E hr => der_law_root  f cdv A outer s H E hr) rd_law_root
theorem H_law_chord (F : Fx w K mg) : Has P w K mg base 3 "_law_chord" 2 c_law_chord :=
  has_of F.d_law_chord sc_law_chord rfl (fun _ _ _ _ _ _ us hl => match us, hl with | [_, _], _ => rfl) mo_law_chord (fun f cdv A outer s H E hr => der_law_chord (H_law_low F) (H_law_plus F) (H_law_less F) (H_law_times F) f cdv A outer s H E hr) rd_law_chord
theorem H_law_parts (F : Fx w K mg) : Has P w K mg base 4 "_law_parts" 2 c_law_parts :=
  has_of F.d_law_parts sc_law_parts rfl (fun _ _ _ _ _ _ us hl => match us, hl with | [_, _], _ => rfl) mo_law_parts (fun f cdv A outer s H E hr => der_law_parts (H_law_low F) (H_law_plus F) (H_law_times F) (H_law_less F) (H_law_chord F) f cdv A outer s H E hr) rd_law_parts
theorem H_law_fail (F : Fx w K mg) : Has P w K mg base 5 "_law_fail" 2 c_law_fail :=
  has_of F.d_law_fail sc_law_fail rfl (fun _ _ _ _ _ _ us hl => match us, hl with | [_, _], _ => rfl) mo_law_fail (fun f cdv A outer s H E hr => der_law_fail (H_law_root F) (H_law_low F) (H_law_less F) (H_law_times F) (H_law_parts F) F.m_int (H_law_grounds F) f cdv A outer s H E hr) rd_law_fail
theorem H_law_first (F : Fx w K mg) : Has P w K mg base 5 "_law_first" 3 c_law_first :=
  has_of F.d_law_first sc_law_first rfl (fun _ _ _ _ _ _ us hl => match us, hl with | [_, _, _], _ => rfl) mo_law_first (fun f cdv A outer s H E hr => der_law_first F.m_int (H_law_less F) (H_law_plus F) (H_law_times F) (H_law_parts F) f cdv A outer s H E hr) rd_law_first
theorem H_law_on_way (F : Fx w K mg) : Has P w K mg base 2 "_law_on_way" 4 c_law_on_way :=
  has_of F.d_law_on_way sc_law_on_way rfl (fun _ _ _ _ _ _ us hl => match us, hl with | [_, _, _, _], _ => rfl) mo_law_on_way (fun f cdv A outer s H E hr => der_law_on_way (H_law_even F) (H_law_less F) (H_law_times F) F.m_range f cdv A outer s H E hr) rd_law_on_way
theorem H_law_point (F : Fx w K mg) : Has P w K mg base 3 "_law_point" 3 c_law_point :=
  has_of F.d_law_point sc_law_point rfl (fun _ _ _ _ _ _ us hl => match us, hl with | [_, _, _], _ => rfl) mo_law_point (fun f cdv A outer s H E hr => der_law_point (H_law_off F) (H_law_plus F) (H_law_even F) (H_law_times F) (H_law_less F) (H_law_on_way F) f cdv A outer s H E hr) rd_law_point
theorem H_law_line_fits (F : Fx w K mg) : Has P w K mg base 3 "_law_line_fits" 3 c_law_line_fits :=
  has_of F.d_law_line_fits sc_law_line_fits rfl (fun _ _ _ _ _ _ us hl => match us, hl with | [_, _, _], _ => rfl) mo_law_line_fits (fun f cdv A outer s H E hr => der_law_line_fits (H_law_off F) (H_law_is_line F) f cdv A outer s H E hr) rd_law_line_fits
theorem H_law_fits (F : Fx w K mg) : Has P w K mg base 8 "_law_fits" 3 c_law_fits :=
  has_of F.d_law_fits sc_law_fits rfl (fun _ _ _ _ _ _ us hl => match us, hl with | [_, _, _], _ => rfl) mo_law_fits (fun f cdv A outer s H E hr => der_law_fits (H_law_first F) (H_law_even F) (H_law_near F) (H_law_off F) (H_law_point F) F.m_len (H_law_is_frac F) (H_law_is_place F) (H_law_line_fits F) (H_law_grounds F) F.m_int (H_law_so F) (H_law_sort F) F.m_isinstance F.m_tuple f cdv A outer s H E hr) rd_law_fits
end
end Mb
set_option Elab.async false
set_option linter.all false
set_option maxRecDepth 100000
set_option maxHeartbeats 4000000
namespace Mb
open PySem PySem.Spec PyProof.Rows L2
/-! ### defs that change their pool: the pool stands at D, out of sight of the data -/
/-- the pool: what it gives still, how often it gave, its cell -/
def PoolAt (H : Hp) (D : Addr) (n : Nat) : Prop := ∃ x y z : Int, H D = some (.lst [.int x, .int y, .int z]) ∧ 0 ≤ x ∧ 0 ≤ y ∧ y ≤ (n : Int)
theorem PoolAt.mono {H : Hp} {D : Addr} {m n : Nat} (h : PoolAt H D m) (l : m ≤ n) : PoolAt H D n := let ⟨x, y, z, h1, h2, h3, h4⟩ := h; ⟨x, y, z, h1, h2, h3, by omega⟩
theorem PoolAt.same {H H' : Hp} {D : Addr} {n : Nat} (h : PoolAt H D n) (s : Same H H') : PoolAt H' D n := let ⟨x, y, z, h1, h2⟩ := h; ⟨x, y, z, s _ _ h1, h2⟩
def intD : PyData → Bool
  | .int _ => true
  | _ => false
mutual
/-- no list of three ints in it -/
def noP : PyData → Bool
  | .list ds => !(ds.length == 3 && ds.all intD) && noPs ds
  | .tuple ds => noPs ds
  | .dict kvs => noPk kvs
  | _ => true
def noPs : List PyData → Bool
  | [] => true
  | d :: ds => noP d && noPs ds
def noPk : List (PyData × PyData) → Bool
  | [] => true
  | (_, d) :: ds => noP d && noPk ds
end
section
variable {K : PySem.W.Frag} {H : Hp} {D : Addr} {x y z : Int}
theorem sqt_hid {a : Addr} {xs : List V} (hD : H D = some (.lst [.int x, .int y, .int z])) (h : SqT K H a xs) : SqT K (hid H D) a xs := by
  have ne : ∀ o, H a = some o → o ≠ .lst [.int x, .int y, .int z] → a ≠ D := fun o e n z => by subst z; rw [hD] at e; exact n (Option.some.inj e).symm
  rcases h with (h | ⟨o, h⟩) | h
  · exact .inl (.inl (by rw [hid_ne (ne _ h (fun z => nomatch z))]; exact h))
  · exact .inl (.inr ⟨o, by rw [hid_ne (ne _ h (fun z => nomatch z))]; exact h⟩)
  · exact .inr h
mutual
theorem Rp.hidP (hD : H D = some (.lst [.int x, .int y, .int z])) : ∀ {v : V} {d : PyData}, Rp K H v d → noP d = true → Rp K (Mb.hid H D) v d
  | _, _, .non, _ => .non
  | _, _, .bl b, _ => .bl b
  | _, _, .int i, _ => .int i
  | _, _, .str x, _ => .str x
  | _, _, .lst (a := a) (ds := ds) h t, c => by
    simp only [noP, Bool.and_eq_true] at c
    refine .lst ?_ (RpAll.hidP hD t c.2)
    rw [hid_ne]
    · exact h
    · intro e
      subst e
      rw [hD] at h
      injection h with h
      injection h with h
      subst h
      cases t with
      | cons a t =>
        cases t with
        | cons b t =>
          cases t with
          | cons e t =>
            cases t
            cases a; cases b; cases e
            have c1 := c.1
            simp [intD] at c1
  | _, _, .tup h t, c => by
    simp only [noP] at c
    exact .tup (sqt_hid hD h) (RpAll.hidP hD t c)
  | _, _, .dic (a := a) h t, c => by
    simp only [noP] at c
    exact .dic (by rw [hid_ne (by intro z; subst z; rw [hD] at h; cases h)]; exact h) (RpKvs.hidP hD t c)
theorem RpAll.hidP (hD : H D = some (.lst [.int x, .int y, .int z])) : ∀ {vs : List V} {ds : List PyData}, RpAll K H vs ds → noPs ds = true → RpAll K (Mb.hid H D) vs ds
  | _, _, .nil, _ => .nil
  | _, _, .cons h t, c => by
    simp only [noPs, Bool.and_eq_true] at c
    exact .cons (Rp.hidP hD h c.1) (RpAll.hidP hD t c.2)
theorem RpKvs.hidP (hD : H D = some (.lst [.int x, .int y, .int z])) : ∀ {vs : List (Key × V)} {ds : List (PyData × PyData)}, RpKvs K H vs ds → noPk ds = true → RpKvs K (Mb.hid H D) vs ds
  | _, _, .nil, _ => .nil
  | _, _, .cons h t, c => by
    simp only [noPk, Bool.and_eq_true] at c
    exact .cons (Rp.hidP hD h c.1) (RpKvs.hidP hD t c.2)
end
theorem hid_le {H H' : Hp} (s : Same H H') : Same (hid H D) (hid H' D) := hid_mono fun b o _ e => s b o e
end
/-- what is wanted, of the data, with the pool at D -/
def wI (K : PySem.W.Frag) (H : Hp) (D : Addr) (n : Nat) (Q : VK) : PyData → Prop := fun d => ∀ v H', Same (hid H D) (hid H' D) → PoolAt H' D n → Rp K (hid H' D) v d → Q v H'
def wIB (H : Hp) (D : Addr) (n : Nat) (Q : Bool → Hp → Prop) : Bool → Prop := fun b => ∀ H', Same (hid H D) (hid H' D) → PoolAt H' D n → Q b H'
def wIA (K : PySem.W.Frag) (H : Hp) (D : Addr) (n : Nat) (Q : List V → Hp → Prop) : List PyData → Prop := fun ds => ∀ vs H', Same (hid H D) (hid H' D) → PoolAt H' D n → RpAll K (hid H' D) vs ds → Q vs H'
structure IOk (K : PySem.W.Frag) (H : Hp) (D : Addr) (n : Nat) (δ : Dn) (σ : L2.St) : Prop where
  env : EnvOk K (hid H D) δ σ
  at0 : σ[0]? = some (some (.ref D))
  z0 : δ[0]? = some none
  pool : PoolAt H D n
def wIN (K : PySem.W.Frag) (H : Hp) (D : Addr) (n : Nat) (Q : L2.St → Hp → Prop) : Dn → Prop := fun δ => ∀ σ H', Same (hid H D) (hid H' D) → IOk K H' D n δ σ → Q σ H'
def wIE (K : PySem.W.Frag) (H : Hp) (D : Addr) (n : Nat) (E : Ends) : DE := { nx := wIN K H D n E.nx, rt := wI K H D n E.rt }
def lI (K : PySem.W.Frag) (n m : Nat) (t : TD) : TE := fun σ H Q => ∃ D δ, IOk K H D n δ σ ∧ t δ (wI K H D m Q)
def lIT (K : PySem.W.Frag) (n m : Nat) (t : TDT) : TT := fun σ H Q => ∃ D δ, IOk K H D n δ σ ∧ t δ (wIB H D m Q)
/-- of arguments the pool's place is asked for by name -/
def lIA (K : PySem.W.Frag) (n m : Nat) (D : Addr) (t : TDA) : TA := fun σ H Q => ∃ δ, IOk K H D n δ σ ∧ t δ (wIA K H D m Q)
def lIS (K : PySem.W.Frag) (n m : Nat) (t : TDS) : TS := fun E σ H => ∃ D δ, IOk K H D n δ σ ∧ t (wIE K H D m E) δ
structure PI (X : Cx) (n m : Nat) (e : Expr) (t : TD) : Prop where
  run : ∀ D, PE X e (fun σ H Q => ∃ δ, IOk X.K H D n δ σ ∧ t δ (wI X.K H D m Q))
  mo : MoE t
structure PIT (X : Cx) (n m : Nat) (e : Expr) (t : TDT) : Prop where
  run : ∀ D, PT X e (fun σ H Q => ∃ δ, IOk X.K H D n δ σ ∧ t δ (wIB H D m Q))
  mo : MoT t
structure PIW (X : Cx) (n m : Nat) (e : Expr) (t : TDT) : Prop where
  run : ∀ D, PW X e (fun σ H Q => ∃ δ, IOk X.K H D n δ σ ∧ t δ (wIB H D m Q))
  mo : MoT t
structure PIA (X : Cx) (n m : Nat) (es : List Expr) (t : TDA) : Prop where
  run : ∀ D, PA X es (fun σ H Q => ∃ δ, IOk X.K H D n δ σ ∧ t δ (wIA X.K H D m Q))
  mo : MoA t
  len : ∀ δ (P : List PyData → Prop), t δ P → t δ fun ds => P ds ∧ ds.length = es.length
structure PIS (X : Cx) (n m : Nat) (st : Stmt) (t : TDS) : Prop where
  run : ∀ D, PS X st (fun E σ H => ∃ δ, IOk X.K H D n δ σ ∧ t (wIE X.K H D m E) δ)
  mo : MoS t
structure PISs (X : Cx) (n m : Nat) (st : List Stmt) (t : TDS) : Prop where
  run : ∀ D, PSs X st (fun E σ H => ∃ δ, IOk X.K H D n δ σ ∧ t (wIE X.K H D m E) δ)
  mo : MoS t
section
variable {K : PySem.W.Frag} {H H' : Hp} {D : Addr} {n m : Nat} {δ : Dn} {σ : L2.St}
theorem IOk.next (h : IOk K H D n δ σ) (s : Same (hid H D) (hid H' D)) (p : PoolAt H' D m) : IOk K H' D m δ σ := ⟨h.env.mono s, h.at0, h.z0, p⟩
theorem IOk.set (h : IOk K H D n δ σ) {x : V} {d : PyData} (r : Rp K (hid H D) x d) {i : Nat} (hi : i ≠ 0) : IOk K H D n (δ.set i (some d)) (σ.set i (some x)) :=
  ⟨h.env.set r i, by rw [List.getElem?_set_ne hi]; exact h.at0, by rw [List.getElem?_set_ne hi]; exact h.z0, h.pool⟩
theorem IOk.real (h : IOk K H D n δ σ) : EnvOk K H δ σ := h.env.mono (hid_same H D)
theorem wI.mono (s : Same (hid H D) (hid H' D)) (l : n ≤ m) {Q : VK} {d : PyData} (h : wI K H D m Q d) : wI K H' D n Q d := fun v H2 s2 p r => h v H2 (s.trans s2) (p.mono l) r
theorem wIA.mono (s : Same (hid H D) (hid H' D)) {Q : List V → Hp → Prop} {d : List PyData} (h : wIA K H D m Q d) : wIA K H' D m Q d := fun v H2 s2 p r => h v H2 (s.trans s2) p r
theorem wIN.mono (s : Same (hid H D) (hid H' D)) (l : n ≤ m) {Q : L2.St → Hp → Prop} {d : Dn} (h : wIN K H D m Q d) : wIN K H' D n Q d := fun σ H2 s2 r => h σ H2 (s.trans s2) ⟨r.env, r.at0, r.z0, r.pool.mono l⟩
theorem wIE.mono (s : Same (hid H D) (hid H' D)) (l : n ≤ m) (E : Ends) : (wIE K H D m E).le (wIE K H' D n E) := ⟨fun _ h => wIN.mono s l h, fun _ h => wI.mono s l h, fun _ h => h, fun _ h => h⟩
/-- a value out of a pure step -/
theorem wI.pure {Q : VK} {d : PyData} (h : wI K H D n Q d) (p : PoolAt H D n) (c : noP d = true) : wV K H Q d := fun v H1 s1 r1 => by
  obtain ⟨x, y, z, hD, _⟩ := p.same s1
  exact h v H1 (hid_le s1) (p.same s1) (r1.hidP hD c)
end
/-- the result has no list of three ints -/
def dNoP1 (t : TD) : TD := fun δ Q => t δ fun d => noP d = true ∧ Q d
section
variable {X : Cx} {n m k : Nat} {e a b : Expr} {es : List Expr} {t ta tb te : TD} {tA : TDA} {pos p : Pos}
theorem pi_pd (h : PD X e t) : PI X n n e (dNoP1 t) := by
  refine ⟨fun D => PE.imp h.run fun σ H Q ⟨δ, ok, q⟩ => ?_, fun δ P P' m q => h.mo δ _ _ (fun d hd => ⟨hd.1, m _ hd.2⟩) q⟩
  exact ⟨δ, ok.real, h.mo δ _ _ (fun d hd => hd.2.pure ok.pool hd.1) q⟩
theorem pia_nil : PIA X n n [] dNil := ⟨fun D => PA.imp pa_nil fun σ H Q ⟨δ, ok, q⟩ => q [] H (Same.refl _) ok.pool .nil, fun _ _ _ m h => m _ h, fun _ _ h => ⟨h, rfl⟩⟩
theorem pia_cons (ha : PI X n m e te) (hr : PIA X m k es tA) (hs : starEach (e :: es) X.env = (false, eval e X.env) :: starEach es X.env := by rfl) : PIA X n k (e :: es) (dCons te tA) := by
  refine ⟨fun D => PA.imp (pa_cons (ha.run D) (hr.run D) hs) fun σ H Q ⟨δ, ok, q⟩ => ?_, fun δ P P' m h => ?_, fun δ P h => ha.mo δ _ _ (fun d hd => hr.mo δ _ _ (fun ds hp => ⟨hp.1, by rw [List.length_cons, List.length_cons, hp.2]⟩) (hr.len δ _ hd)) h⟩
  · refine ⟨δ, ok, ha.mo δ _ _ (fun d hd v H1 s1 p1 r1 => ?_) q⟩
    refine ⟨δ, ok.next s1 p1, hr.mo δ _ _ (fun ds hp vs H2 s2 p2 r2 => ?_) hd⟩
    exact hp (v :: vs) H2 (s1.trans s2) p2 (.cons (r1.mono s2) r2)
  · exact ha.mo δ _ _ (fun d hd => hr.mo δ _ _ (fun ds hp => m _ hp) hd) h
theorem pi_op {op : Operator} {r : R2} {g : PyData → PyData → (PyData → Prop) → Prop} (ho : OpR X (binaryOp op) r) (lk : Lk2 X.K r g) (mg : MoG g) (ha : PI X n m a ta) (hb : PI X m k b tb) : PI X n k (.BinOp a op b pos) (dNoP1 (dOp g ta tb)) := by
  refine ⟨fun D => PE.imp (pe_op ho (ha.run D) (hb.run D)) fun σ H Q ⟨δ, ok, q⟩ => ?_, fun δ P P' m h => dOp_mo mg ha.mo hb.mo δ _ _ (fun d hd => ⟨hd.1, m _ hd.2⟩) h⟩
  refine ⟨δ, ok, ha.mo δ _ _ (fun d hd x H1 s1 p1 r1 => ?_) q⟩
  refine ⟨δ, ok.next s1 p1, hb.mo δ _ _ (fun e he y H2 s2 p2 r2 => ?_) hd⟩
  exact lk H2 x y d e Q ((r1.mono s2).mono (hid_same _ _)) (r2.mono (hid_same _ _)) (mg _ _ _ _ (fun z hz => (wI.mono (s1.trans s2) (Nat.le_refl _) hz.2).pure p2 hz.1) he)
theorem pi_ix {r : R2} {g : PyData → PyData → (PyData → Prop) → Prop} (hr : IxR X r) (lk : Lk2 X.K r g) (mg : MoG g) (ha : PI X n m a ta) (hb : PI X m k b tb) (hs : PlainIx b := by exact fun _ _ => rfl) : PI X n k (.Subscript a b pos) (dNoP1 (dOp g ta tb)) := by
  refine ⟨fun D => PE.imp (pe_ix hr (ha.run D) (hb.run D) hs) fun σ H Q ⟨δ, ok, q⟩ => ?_, fun δ P P' m h => dOp_mo mg ha.mo hb.mo δ _ _ (fun d hd => ⟨hd.1, m _ hd.2⟩) h⟩
  refine ⟨δ, ok, ha.mo δ _ _ (fun d hd x H1 s1 p1 r1 => ?_) q⟩
  refine ⟨δ, ok.next s1 p1, hb.mo δ _ _ (fun e he y H2 s2 p2 r2 => ?_) hd⟩
  exact lk H2 x y d e Q ((r1.mono s2).mono (hid_same _ _)) (r2.mono (hid_same _ _)) (mg _ _ _ _ (fun z hz => (wI.mono (s1.trans s2) (Nat.le_refl _) hz.2).pure p2 hz.1) he)
theorem pi_tup {x1} (h : PIA X n m es tA) (hl : es.length ≤ 1000 := by decide) : PI X n m (.Tuple es x1 pos) (dTup tA) := by
  refine ⟨fun D => PE.imp (pe_tup (h.run D)) fun σ H Q ⟨δ, ok, q⟩ => ?_, fun δ P P' m q => h.mo δ _ _ (fun ds hd => m _ hd) q⟩
  refine ⟨δ, ok, h.mo δ _ _ (fun ds hd vs H1 s1 p1 r1 => ?_) (h.len δ _ q)⟩
  refine ⟨by rw [r1.length, hd.2]; exact le_line hl, fun p hp => ?_⟩
  obtain ⟨x, y, z, hD, _⟩ := id p1
  have np : p ≠ D := fun e => by subst e; rw [hD] at hp; cases hp
  have s2 := same_upd (o := .tup vs) hp
  refine hd.1 (.ref p) _ (s1.trans (hid_le s2)) (p1.same s2) (.tup (SqT.of ?_) (r1.mono (hid_le s2)))
  rw [hid_ne np]
  exact upd_same
theorem pi_call {j : Nat} {F : Ct} {x : Str} (h : Has X.prog X.w X.K X.mg X.base k x j F) (hr : Room k X.A) (hg : Gl X x) (ha : PIA X n m (e :: es) tA) (hn : (e :: es).length = j := by rfl) (hdb : (x == ("__debug__" : Str)) = false := by decide)
    (he : starEach (e :: es) X.env = (false, eval e X.env) :: starEach es X.env := by rfl) (hpl : (backTo pos (starEach es X.env)).any (·.1) = false := by rfl) : PI X n m (.Call (.Name x p) (e :: es) [] pos) (dNoP1 (dCall j F tA)) := by
  obtain ⟨f, fd, ps, h1, h2, h3, h4⟩ := h.ex
  refine ⟨fun D => PE.imp (pe_call h4 hr hg h1 h2 h3 .nil pass0 (ha.run D) hdb he hpl) fun σ H Q ⟨δ, ok, q⟩ => ?_, fun δ P P' m q => ha.mo δ _ _ (fun ds hd => h.mo ds _ _ (fun d hd => ⟨hd.1, m _ hd.2⟩) hd) q⟩
  refine ⟨δ, ok, ha.mo δ _ _ (fun ds hd vs H1 s1 p1 r1 => ?_) (ha.len δ _ q)⟩
  show spD X.K j F (vs ++ []) H1 Q E0
  rw [List.append_nil]
  exact ⟨ds, r1.mono (hid_same _ _), hd.2.trans hn, h.mo ds _ _ (fun z hz => (wI.mono s1 (Nat.le_refl _) hz.2).pure p1 hz.1) hd.1⟩
end
/-! ### calls of defs that take a pool -/
def spI (K : PySem.W.Frag) (c j : Nat) (F : Ct) : Sp := fun vs H Q _ => ∃ D vs' ds n, vs = .ref D :: vs' ∧ PoolAt H D n ∧ n + c ≤ 100000 ∧ RpAll K (hid H D) vs' ds ∧ ds.length + 1 = j ∧ F ds (wI K H D (n + c) Q)
structure HasI (P : Program) (w : World) (K : PySem.W.Frag) (mg : Str → Option Value) (base : Heap) (k : Nat) (x : Str) (j c : Nat) (F : Ct) : Prop where
  ex : ∃ (f : Addr) (fd : FuncData) (ps : List Str), mg x = some (.ref f) ∧ PySem.W.keepIn K (.ref f) = true ∧ Binds K fd ps [] ∧ FnOk P w K mg base CX0 k f fd ps (spI K c j F)
  mo : MoC F
theorem HasI.up {P : Program} {w : World} {K : PySem.W.Frag} {mg : Str → Option Value} {base : Heap} {i k : Nat} {x : Str} {j c : Nat} {F : Ct} (h : HasI P w K mg base i x j c F) (l : i ≤ k) : HasI P w K mg base k x j c F :=
  ⟨let ⟨f, fd, ps, h1, h2, h3, h4⟩ := h.ex; ⟨f, fd, ps, h1, h2, h3, h4.mono l⟩, h.mo⟩
section
variable {X : Cx} {n m k c : Nat} {e a b : Expr} {es : List Expr} {t ta tb te : TD} {tt : TDT} {tA : TDA} {pos p p2 : Pos} {st : Stmt} {rest sa sb : List Stmt} {u u2 : TDS}
theorem pi_callI {j kk : Nat} {F : Ct} {x y : Str} (h : HasI X.prog X.w X.K X.mg X.base kk x j c F) (hr : Room kk X.A) (hg : Gl X x) (ha : PIA X n m es tA) (hm : m + c ≤ 100000) (hn : es.length + 1 = j := by rfl) (hN : X.N[0]? = some y := by rfl) (hv : Vis X.env.scope y := by first | exact Or.inl rfl | exact Or.inr (Or.inl rfl) | exact Or.inr (Or.inr rfl))
    (hd : (y == ("__debug__" : Str)) = false := by decide) (hcd : (y == ("__classdict__" : Str)) = false := by decide) (hdb : (x == ("__debug__" : Str)) = false := by decide) (hs0 : starEach (.Name y p2 :: es) X.env = (false, eval (.Name y p2) X.env) :: starEach es X.env := by rfl)
    (hpl : (backTo pos (starEach es X.env)).any (·.1) = false := by rfl) : PI X n (m + c) (.Call (.Name x p) (.Name y p2 :: es) [] pos) (dCall j F tA) := by
  obtain ⟨f, fd, ps, h1, h2, h3, h4⟩ := h.ex
  refine ⟨fun D => PE.imp (pe_call h4 hr hg h1 h2 h3 .nil pass0 (pa_cons (pe_var (i := 0) hN hv hd hcd) (ha.run D) hs0) hdb hs0 hpl) fun σ H Q ⟨δ, ok, q⟩ => ?_, fun δ P P' m q => ha.mo δ _ _ (fun ds hd => h.mo ds _ _ m hd) q⟩
  refine ⟨_, ok.at0, δ, ok, ha.mo δ _ _ (fun ds hd vs H1 s1 p1 r1 => ?_) (ha.len δ _ q)⟩
  show spI X.K c j F (.ref D :: vs ++ []) H1 Q E0
  rw [List.append_nil]
  exact ⟨D, vs, ds, m, rfl, p1, hm, r1, by rw [hd.2]; exact hn, h.mo ds _ _ (fun z hz => wI.mono s1 (Nat.le_refl _) hz) hd.1⟩
theorem pit_pd (h : PDT X e tt) : PIT X n n e tt := by
  refine ⟨fun D => PT.imp (h.run) fun σ H Q ⟨δ, ok, q⟩ => ?_, h.mo⟩
  exact ⟨δ, ok.real, h.mo δ _ _ (fun b hb H1 s1 => hb H1 (hid_le s1) (ok.pool.same s1)) q⟩
theorem pit_cmp {op : CmpOp} {r : R2} {g : GB} (ho : OpR X (compareOp op) r) (lk : LkB X.K r g) (mg : MoB g) (ha : PI X n m a ta) (hb : PI X m k b tb) (hm : behindInMarks op b = false) : PIT X n k (.Compare a [op] [b] pos) (dCmpT g ta tb) := by
  refine ⟨fun D => PT.imp (pt_cmpR ho (ha.run D) (hb.run D) hm) fun σ H Q ⟨δ, ok, q⟩ => ?_, dCmpT_mo mg ha.mo hb.mo⟩
  refine ⟨δ, ok, ha.mo δ _ _ (fun d hd x H1 s1 p1 r1 => ?_) q⟩
  refine ⟨δ, ok.next s1 p1, hb.mo δ _ _ (fun e he y H2 s2 p2 r2 => ?_) hd⟩
  exact lk H2 x y d e _ ((r1.mono s2).mono (hid_same _ _)) (r2.mono (hid_same _ _)) (mg _ _ _ _ (fun z hz => ⟨z, rfl, hz H2 (s1.trans s2) p2⟩) he)
theorem pis_set {i : Nat} {x : Str} {pos' : Pos} (hN : X.N.Nodup) (h : PI X n m e te) (h0 : i ≠ 0 := by decide) (hi : X.N[i]? = some x := by rfl) (hx : Loc X.env.scope x := by first | exact Or.inl rfl | exact Or.inr rfl) (hs : swapsWith e (some (.Name x pos')) pos.line X.env = pure false := by rfl) (hf : X.fn x = true ∨ X.env.scope.names.lookup x = some .local := by first | exact .inl rfl | exact .inr rfl) :
    PIS X n m (.Assign [.Name x pos'] e pos) (dSet i te) := by
  refine ⟨fun D => PS.imp (ps_set hN hi hx (h.run D) hs hf) fun E σ H ⟨δ, ok, q⟩ => ?_, fun E E' δ l q => h.mo δ _ _ (fun _ h => l.nx _ h) q⟩
  exact ⟨δ, ok, h.mo δ _ _ (fun d hd v H1 s1 p1 r1 => hd _ H1 s1 ((ok.next s1 p1).set r1 h0)) q⟩
theorem pis_ret (h : PI X n m e te) : PIS X n m (.Return (some e) pos) (dRet te) := ⟨fun D => PS.imp (ps_ret (h.run D)) fun E σ H ⟨δ, ok, q⟩ => ⟨δ, ok, q⟩, fun E E' δ l q => h.mo δ _ _ l.rt q⟩
theorem pis_up (h : PIS X n m st u) (l : m ≤ k) : PIS X n k st u := ⟨fun D => PS.imp (h.run D) fun E σ H ⟨δ, ok, q⟩ => ⟨δ, ok, h.mo _ _ δ (wIE.mono (Same.refl _) l E) q⟩, h.mo⟩
theorem piss_up (h : PISs X n m rest u) (l : m ≤ k) : PISs X n k rest u := ⟨fun D => PSs.imp (h.run D) fun E σ H ⟨δ, ok, q⟩ => ⟨δ, ok, h.mo _ _ δ (wIE.mono (Same.refl _) l E) q⟩, h.mo⟩
theorem pis_if (hc : PIT X n m e tt) (ha : PISs X m k sa u) (hb : PISs X m k sb u2) : PIS X n k (.If e sa sb pos) (dIf tt u u2) := by
  refine ⟨fun D => PS.imp (ps_if (hc.run D) (ha.run D) (hb.run D)) fun E σ H ⟨δ, ok, q⟩ => ?_, fun E E' δ l q => hc.mo δ _ _ (fun z h => ?_) q⟩
  · refine ⟨δ, ok, hc.mo δ _ _ (fun z h H1 s1 p1 => ?_) q⟩
    cases z with
    | true => exact iteT ⟨δ, ok.next s1 p1, ha.mo _ _ δ (wIE.mono s1 (Nat.le_refl _) E) (by simpa using h)⟩
    | false => exact iteF ⟨δ, ok.next s1 p1, hb.mo _ _ δ (wIE.mono s1 (Nat.le_refl _) E) (by simpa using h)⟩
  · cases z with
    | true => exact iteT (ha.mo _ _ δ l (by simpa using h))
    | false => exact iteF (hb.mo _ _ δ l (by simpa using h))
theorem piss_nil : PISs X n n [] dSkip := ⟨fun D => PSs.imp pss_nil fun E σ H ⟨δ, ok, q⟩ => q σ H (Same.refl _) ok, fun E E' δ l h => l.nx _ h⟩
theorem piss_one (h1 : PIS X n m st u) : PISs X n m [st] u := ⟨fun D => pss_one (h1.run D), h1.mo⟩
theorem piss_cons (h1 : PIS X n m st u) (h2 : PISs X m k rest u2) (l : m ≤ k) : PISs X n k (st :: rest) (dSeq u u2) := by
  refine ⟨fun D => PSs.imp (pss_cons (h1.run D) (h2.run D)) fun E σ H ⟨δ, ok, q⟩ => ?_, fun E E' δ l h => ?_⟩
  · refine ⟨δ, ok, h1.mo { wIE X.K H D k E with nx := u2 (wIE X.K H D k E) } _ δ ⟨fun δ' h σ' H' s ok' => ⟨δ', ok', h2.mo _ _ δ' (wIE.mono s (Nat.le_refl _) E) h⟩, fun z h => wI.mono (Same.refl _) l h, fun _ h => h, fun _ h => h⟩ q⟩
  · exact h1.mo { E with nx := u2 E } { E' with nx := u2 E' } δ ⟨fun δ' h => h2.mo _ _ δ' l h, l.rt, l.bk, l.ct⟩ h
end
/-- the slots at the entry of a def that takes a pool -/
def startI (n : Nat) (ds : List PyData) : Dn := (startD n (.none :: ds)).set 0 none
theorem iok_start {K : PySem.W.Frag} {H : Hp} {D : Addr} {n : Nat} {vs : List V} {ds : List PyData} (N : List Str) (p : PoolAt H D n) (r : RpAll K (hid H D) vs ds) : IOk K H D n (startI N.length ds) (L2.start N (.ref D :: vs)) := by
  have h := rp_start N (RpAll.cons (K := K) (H := hid H D) .non r)
  refine ⟨⟨?_, fun i d q => ?_⟩, rfl, rfl, p⟩
  · have := h.len
    unfold startI
    rw [List.length_set, this]
    rfl
  · unfold startI at q
    cases i with
    | zero => cases q
    | succ i =>
      rw [List.getElem?_set_ne (by omega)] at q
      exact h.at_ (i + 1) d q
section
variable {P : Program} {w : World} {K : PySem.W.Frag} {mg : Str → Option Value} {base : Heap}
theorem has_ofI {x : Str} {st : Stmt} {N ps : List Str} {k j c : Nat} {F : Ct} {t : TDS} (D : DefAt K mg x st) (S : FnScope N ps (defScope st)) (hn : ps.length = j)
    (hbind : ∀ (kV doc pm : Value) (an : Option Addr) (cdv ct : Value) (us : List Value), us.length = ps.length → bindArgs (PySem.W.fnOf x x (defArgs st) (defBody st) (defScope st) .none kV doc pm an cdv ct) ⟨us, []⟩ = pure (ps.zip us)) (mo : MoC F)
    (hb : ∀ (n : Nat), n + c ≤ 100000 → ∀ (f : Addr) (cdv : Value) (A : Around) (outer : List Env) (s : Shared) (H : Hp) (E : XK), Room k (A.deeper (envOfC x (defScope st) s.heap.objs.size f cdv)) → PISs (bodyX P w K mg base N x st f cdv A outer s H E) n (n + c) (defBody st) t)
    (hr : ∀ ds (Q : PyData → Prop), ds.length + 1 = j → F ds Q → t { nx := fun _ => Q .none, rt := Q } (startI N.length ds)) : HasI P w K mg base (k + 1) x j c F := by
  obtain ⟨f, fd, h1, h2, Fn⟩ := D.ex
  refine ⟨⟨f, fd, ps, h1, h2, Fn.binds hbind, ?_⟩, mo⟩
  refine Fn.ok S (fun vs H Q E h => ?_) (fun cdv A outer s H vs Q E hroom h => ?_)
  · obtain ⟨D, vs', ds, n, rfl, _, _, r, l, _⟩ := h
    rw [List.length_cons, r.length, l, hn]
  · obtain ⟨D, vs', ds, n, rfl, p, hn, r, l, q⟩ := h
    have B := hb n hn f cdv A outer s H E hroom
    refine ⟨_, B.run D, startI N.length ds, iok_start N p r, B.mo _ _ _ ⟨fun δ h σ' H' s' ok => ?_, fun d h v H' s' p' r' => ?_, fun _ (h : False) => h.elim, fun _ (h : False) => h.elim⟩ (hr ds _ l q)⟩
    · exact h .non H' s' ok.pool .non
    · exact h v H' s' p' r'
end
end Mb
set_option Elab.async false
set_option linter.all false
set_option maxRecDepth 100000
set_option maxHeartbeats 4000000
namespace Mb
open PySem PySem.Spec PyProof.Rows L2
/-! ### _law_take -/
/-- // by a small divisor -/
def CDivS (_ j : Int) : Prop := j ≠ 0 ∧ j.natAbs.log2 < 1000
def gFdivS : PyData → PyData → (PyData → Prop) → Prop
  | .int i, .int j, Q => CDivS i j ∧ Q (.int (i.fdiv j))
  | _, _, _ => False
theorem gFdivS_mo : MoG gFdivS := fun d e P P' m h => by cases d <;> first | exact h.elim | (cases e <;> first | exact h.elim | exact ⟨h.1, m _ h.2⟩)
theorem noPylongS {i j : Int} (h : j.natAbs.log2 < 1000) : Builtin.divisionGoesByPylong i j = false := by
  have key : ∀ a b : Nat, b ≤ 34 → (decide (b > 300) && decide (a > b + 150)) = false := fun a b ha => by
    rw [Bool.and_eq_false_iff]
    exact .inl (decide_eq_false (by omega))
  refine key (if (i == 0) = true then 0 else i.natAbs.log2 / 30 + 1) (if (j == 0) = true then 0 else j.natAbs.log2 / 30 + 1) ?_
  split <;> omega
theorem op_fdivS {X : Cx} : OpR X (binaryOp .FloorDiv) (rI CDivS fun i j => .int (i.fdiv j)) := opI fun _ _ _ _ _ _ _ hc q => floordiv_int hc.1 q (.inl (noPylongS hc.2))
theorem lk_fdivS {K : PySem.W.Frag} : Lk2 K (rI CDivS fun i j => .int (i.fdiv j)) gFdivS := lk_rI fun d e Q h => by cases d <;> first | exact h.elim | (cases e <;> first | exact h.elim | exact ⟨_, _, rfl, rfl, h⟩)
def c_law_take : Ct := fun ds Q => ∃ w : Int, ds = [.int w] ∧ 1 ≤ w ∧ w < 1000000 ∧ ∀ r, 0 ≤ r → r < w → Q (.int r)
theorem mo_law_take : MoC c_law_take := fun ds P P' m ⟨w, h1, h2, h3, h4⟩ => ⟨w, h1, h2, h3, fun r a b => m _ (h4 r a b)⟩
abbrev N_law_take : List Str := [("_law_pool_here" : Str), ("_law_wide" : Str), ("_law_found" : Str), ("_law_seed" : Str)]
abbrev P_law_take : List Str := [("_law_pool_here" : Str), ("_law_wide" : Str)]
theorem sc_law_take : FnScope N_law_take P_law_take (defScope s_law_take) := ⟨rfl, rfl, rfl, by decide +kernel, rfl, by decide +kernel, by decide +kernel⟩
theorem env_nil {K : PySem.W.Frag} {H : Hp} : EnvOk K H [] [] := ⟨rfl, fun i d e => by simp at e⟩
theorem env_some {K : PySem.W.Frag} {H : Hp} {v : V} {d : PyData} {δ : Dn} {σ : L2.St} (r : Rp K H v d) (h : EnvOk K H δ σ) : EnvOk K H (some d :: δ) (some v :: σ) := by
  refine ⟨by rw [List.length_cons, List.length_cons, h.len], fun i e q => ?_⟩
  cases i with
  | zero => simp at q; subst q; exact ⟨v, rfl, r⟩
  | succ i => exact h.at_ i e (by simpa using q)
theorem env_none {K : PySem.W.Frag} {H : Hp} {x : Option V} {δ : Dn} {σ : L2.St} (h : EnvOk K H δ σ) : EnvOk K H (none :: δ) (x :: σ) := by
  refine ⟨by rw [List.length_cons, List.length_cons, h.len], fun i e q => ?_⟩
  cases i with
  | zero => cases q
  | succ i => exact h.at_ i e (by simpa using q)
theorem rp_ints {K : PySem.W.Frag} {H : Hp} {D : Addr} {x y z : Int} (h : H D = some (.lst [.int x, .int y, .int z])) : Rp K H (.ref D) (.list [.int x, .int y, .int z]) := .lst h (.cons (.int _) (.cons (.int _) (.cons (.int _) .nil)))
theorem hid_upd' {H : Hp} {D : Addr} {o : HO} : Same (hid H D) (hid (upd H D o) D) := by rw [hid_upd]; exact Same.refl _
theorem fmod_lt {a b : Int} (h : 0 < b) : 0 ≤ a.fmod b ∧ a.fmod b < b := by
  rw [Int.fmod_eq_emod_of_nonneg _ (by omega)]
  exact ⟨Int.emod_nonneg a (by omega), Int.emod_lt_of_pos a h⟩
section
variable {P : Program} {w : World} {K : PySem.W.Frag} {mg : Str → Option Value} {base : Heap}
theorem raw_take (f : Addr) (cdv : Value) (A : Around) (outer : List Env) (s : Shared) (H : Hp) (E : XK) (hr : Room 0 (A.deeper (envOfC "_law_take" (defScope s_law_take) s.heap.objs.size f cdv))) : ∃ t, PSs (bodyX P w K mg base N_law_take "_law_take" s_law_take f cdv A outer s H E) (defBody s_law_take) t ∧
    (∀ (D : Addr) (n : Nat) (wd : Int) (H : Hp) (E : Ends), PoolAt H D n → n + 1 ≤ 100000 → 1 ≤ wd → wd < 1000000 → (∀ r, 0 ≤ r → r < wd → wI K H D (n + 1) E.rt (.int r)) → t E (L2.start N_law_take [.ref D, .int wd]) H) := by
  refine ⟨_, pss_cons (ps_if (ptd_cmp op_gt lk_int cInt_mo (pd_ix ix_tl lk_ix gIx_mo (dv 0) pd_int) pd_int (nomark _)).run
      (pss_cons (ps_set (i := 2) sc_law_take.nd rfl (Or.inl rfl) (pd_op op_modN lk_mod gMod_mo (pd_ix ix_tl lk_ix gIx_mo (dv 0) pd_int) (dv 1)).run)
        (pss_cons (ps_asg (pd_op op_fdivS lk_fdivS gFdivS_mo (pd_ix ix_tl lk_ix gIx_mo (dv 0) pd_int) (dv 1)).run (pg_sub (pe_var (i := 0) rfl (Or.inl rfl)) pe_int set_list))
          (pss_one (ps_ret (dv 2).run)))) pss_nil)
    (pss_cons (ps_asg (pd_op op_add lk_add gAdd_mo (pd_ix ix_tl lk_ix gIx_mo (dv 0) pd_int) pd_int).run (pg_sub (pe_var (i := 0) rfl (Or.inl rfl)) pe_int set_list))
    (pss_cons (ps_set (i := 3) sc_law_take.nd rfl (Or.inl rfl) (pd_op op_modN lk_mod gMod_mo (pd_op op_powX lk_pow gPow_mo (pd_op op_add lk_add gAdd_mo (pd_op op_modN lk_mod gMod_mo (pd_ix ix_tl lk_ix gIx_mo (dv 0) pd_int) pd_int) (pd_op op_mulW lk_mul gMul_mo pd_int (pd_ix ix_tl lk_ix gIx_mo (dv 0) pd_int))) pd_int) pd_int).run)
    (pss_cons (ps_set (i := 3) sc_law_take.nd rfl (Or.inl rfl) (pd_op op_add lk_add gAdd_mo (pd_op op_mulW lk_mul gMul_mo (dv 3) pd_int) (pd_op op_mulW lk_mul gMul_mo (pd_op op_mulW lk_mul gMul_mo (pd_ix ix_tl lk_ix gIx_mo (dv 0) pd_int) (pd_ix ix_tl lk_ix gIx_mo (dv 0) pd_int)) pd_int)).run)
    (pss_one (ps_ret (pd_op op_modN lk_mod gMod_mo (pd_op op_fdivS lk_fdivS gFdivS_mo (pd_op op_modN lk_mod gMod_mo (pd_op op_add lk_add gAdd_mo (dv 3) (pd_op op_fdivS lk_fdivS gFdivS_mo (pd_ix ix_tl lk_ix gIx_mo (dv 0) pd_int) pd_int)) pd_int) pd_int) (dv 1)).run))))), ?_⟩
  intro D n wd H E hp hn h1 h2 hQ
  obtain ⟨x, y, z, hD, hx, hy, hyn⟩ := hp
  have e0 : ∀ {H' : Hp} {x y z : Int} (a b : Option V), H' D = some (.lst [.int x, .int y, .int z]) → EnvOk K H' [some (.list [.int x, .int y, .int z]), some (.int wd), none, none] [some (.ref D), some (.int wd), a, b] := fun a b h => env_some (rp_ints h) (env_some (.int _) (env_none (env_none env_nil)))
  refine ⟨_, e0 none none hD, ?_⟩
  have key : ∀ F : Bool → Prop, F (decide (0 < x)) → dCmpT (cInt fun i j => decide (j < i)) (dOp gIx (dVar 0) (dC (.int 0))) (dC (.int 0)) [some (.list [.int x, .int y, .int z]), some (.int wd), none, none] F := fun F h => h
  refine key _ fun H1 s1 => ?_
  dsimp only
  have hD1 := s1 _ _ hD
  have pos : ∀ i : Int, 0 ≤ i → i < 1000000 → i.natAbs.log2 < 1000 := fun i a b => by
    have hb : Bz 20 i := by unfold Bz; omega
    have := hb.log
    omega
  by_cases h : 0 < x
  · rw [if_pos (decide_eq_true h)]
    refine ⟨_, e0 none none hD1, (by omega : wd ≠ 0), fun v H2 s2 r2 => ?_⟩
    have hv := r2.int_inv
    subst hv
    have hD2 := s2 _ _ hD1
    refine ⟨_, e0 _ none hD2, ⟨(by omega : wd ≠ 0), pos wd (by omega) h2⟩, fun v H3 s3 r3 => ?_⟩
    have hv := r3.int_inv
    subst hv
    have hD3 := s3 _ _ hD2
    refine ⟨_, rfl, D, _, _, 0, rfl, rfl, hD3, rfl, ?_⟩
    have rl := fmod_lt (a := x) (b := wd) (by omega)
    refine ⟨[some (.list [.int (x.fdiv wd), .int y, .int z]), some (.int wd), some (.int (x.fmod wd)), none], env_some (rp_ints upd_same) (env_some (.int _) (env_some (.int _) (env_none env_nil))), fun v H4 s4 r4 => ?_⟩
    have sH : Same (hid H D) (hid H4 D) := (hid_le ((s1.trans s2).trans s3)).trans (hid_upd'.trans (hid_le s4))
    have hv := r4.int_inv
    subst hv
    exact hQ _ rl.1 rl.2 _ H4 sH ⟨_, y, z, s4 _ _ upd_same, Int.fdiv_nonneg hx (by omega), hy, by omega⟩ (.int _)
  · rw [if_neg (by simpa using h)]
    refine ⟨_, e0 none none hD1, fun v H2 s2 r2 => ?_⟩
    have hv := r2.int_inv
    subst hv
    have hD2 := s2 _ _ hD1
    refine ⟨_, rfl, D, _, _, 1, rfl, rfl, hD2, rfl, ?_⟩
    have y1 : 0 ≤ y + 1 ∧ y + 1 ≤ 100000 ∧ y + 1 ≤ ((n + 1 : Nat) : Int) := by omega
    generalize y + 1 = u at *
    have bu : Bz 20 u := by unfold Bz; omega
    have k1 : Bz 20 40503 := by unfold Bz; decide
    have k2 : Bz 20 48271 := by unfold Bz; decide
    have k3 : Bz 20 39373 := by unfold Bz; decide
    have big : ∀ i : Int, Bz 31 (i.fmod 2147483647) := fun i => by
      have := fmod_lt (a := i) (b := 2147483647) (by decide)
      unfold Bz
      omega
    have bs : Bz 42 (z.fmod 2147483647 + 40503 * u) := (big z).add (k1.mul bu) (by decide) (by decide)
    refine ⟨[some (.list [.int x, .int u, .int z]), some (.int wd), none, none], e0 none none upd_same, by decide, k1.mulW bu (by decide), ⟨by decide, by decide, Nat.lt_of_le_of_lt bs.log (by decide)⟩, by decide, fun v H3 s3 r3 => ?_⟩
    have hv := r3.int_inv
    subst hv
    have hD3 := s3 _ _ upd_same
    have b3 := big ((z.fmod 2147483647 + 40503 * u) ^ (5 : Int).toNat)
    generalize ((z.fmod 2147483647 + 40503 * u) ^ (5 : Int).toNat).fmod 2147483647 = sd at *
    refine ⟨[some (.list [.int x, .int u, .int z]), some (.int wd), none, some (.int sd)], env_some (rp_ints hD3) (env_some (.int _) (env_none (env_some (.int _) env_nil))), b3.mulW k2 (by decide), bu.mulW bu (by decide), (bu.mul bu).mulW k3 (by decide), fun v H4 s4 r4 => ?_⟩
    have hv := r4.int_inv
    subst hv
    have hD4 := s4 _ _ hD3
    generalize sd * 48271 + u * u * 39373 = sd2 at *
    refine ⟨[some (.list [.int x, .int u, .int z]), some (.int wd), none, some (.int sd2)], env_some (rp_ints hD4) (env_some (.int _) (env_none (env_some (.int _) env_nil))), ⟨by decide, by decide⟩, by decide, ⟨by decide, by decide⟩, (by omega : wd ≠ 0), fun v H5 s5 r5 => ?_⟩
    have hv := r5.int_inv
    subst hv
    have sH : Same (hid H D) (hid H5 D) := (hid_le (s1.trans s2)).trans (hid_upd'.trans (hid_le ((s3.trans s4).trans s5)))
    have rl := fmod_lt (a := ((sd2 + z.fdiv 2147483647).fmod 1000000007).fdiv 16) (b := wd) (by omega)
    exact hQ _ rl.1 rl.2 _ H5 sH ⟨x, u, z, s5 _ _ hD4, hx, y1.1, y1.2.2⟩ (.int _)
theorem H_law_take (F : Fx w K mg) : HasI P w K mg base 1 "_law_take" 2 1 c_law_take := by
  obtain ⟨f, fd, h1, h2, Fn⟩ := F.d_law_take.ex
  refine ⟨⟨f, fd, P_law_take, h1, h2, Fn.binds (fun _ _ _ _ _ _ us hl => match us, hl with | [_, _], _ => rfl), ?_⟩, mo_law_take⟩
  refine Fn.ok sc_law_take (fun vs H Q E h => ?_) (fun cdv A outer s H vs Q E hroom h => ?_)
  · obtain ⟨D, vs', ds, n, rfl, _, _, r, l, _⟩ := h
    rw [List.length_cons, r.length, l]
    rfl
  · obtain ⟨D, vs', ds, n, rfl, p, hn, r, l, wd, rfl, w1, w2, q⟩ := h
    obtain ⟨t, ht, hq⟩ := raw_take (P := P) (w := w) (K := K) (mg := mg) (base := base) f cdv A outer s H E hroom
    cases r with
    | cons a t =>
      cases t
      have e := a.int_inv
      subst e
      exact ⟨_, ht, hq D n wd H _ p hn w1 w2 q⟩
end
end Mb
set_option Elab.async false
set_option linter.all false
set_option maxRecDepth 100000
namespace Mb
open PySem PySem.Spec PyProof.Rows L2
/-! Readings of the defs that draw: printed by gen_imp.py. -/
/-- 10 takes at most -/
def t_law_frac (c_law_take : Ct) (c_law_low : Ct) : TDS :=
  (dSeq (dSet 1 (dCall 2 c_law_take (dCons (dNoP1 (dC (.int 8))) dNil)))
    (dSeq (dIf (dCmpT (cInt fun i j => decide (i < j)) (dVar 1) (dC (.int 4))) (dRet (dTup (dCons (dNoP1 (dOp gSub (dCall 2 c_law_take (dCons (dNoP1 (dC (.int 9))) dNil)) (dNoP1 (dC (.int 4))))) (dCons (dNoP1 (dC (.int 1))) dNil)))) dSkip)
    (dSeq (dIf (dCmpT (cInt fun i j => decide (i < j)) (dVar 1) (dC (.int 6))) (dRet (dNoP1 (dCall 2 c_law_low (dCons (dNoP1 (dOp gSub (dCall 2 c_law_take (dCons (dNoP1 (dC (.int 41))) dNil)) (dNoP1 (dC (.int 20))))) (dCons (dNoP1 (dOp gAdd (dNoP1 (dC (.int 1))) (dCall 2 c_law_take (dCons (dNoP1 (dC (.int 12))) dNil)))) dNil))))) dSkip)
    (dSeq (dIf (dCmpT cEq (dVar 1) (dC (.int 6))) (dRet (dTup (dCons (dNoP1 (dOp gSub (dCall 2 c_law_take (dCons (dNoP1 (dC (.int 2001))) dNil)) (dNoP1 (dC (.int 1000))))) (dCons (dNoP1 (dC (.int 1))) dNil)))) dSkip)
    (dSeq (dSet 2 (dCall 2 c_law_take (dCons (dNoP1 (dC (.int 6))) dNil)))
    (dSeq (dIf (dCmpT (cInt fun i j => decide (i < j)) (dVar 2) (dC (.int 4))) (dRet (dNoP1 (dOp gIx (dLst (dCons (dTup (dCons (dC (.int 999999999)) (dCons (dC (.int 1)) dNil))) (dCons (dTup (dCons (dUn gNeg (dC (.int 999999999))) (dCons (dC (.int 1)) dNil))) (dCons (dTup (dCons (dC (.int 1)) (dCons (dC (.int 999999999)) dNil))) (dCons (dTup (dCons (dUn gNeg (dC (.int 999999998))) (dCons (dC (.int 999999999)) dNil))) dNil))))) (dVar 2)))) dSkip)
    (dSeq (dSet 3 (dNoP1 (dOp gAdd (dNoP1 (dOp gMul (dCall 2 c_law_take (dCons (dNoP1 (dC (.int 44722))) dNil)) (dNoP1 (dC (.int 44721))))) (dCall 2 c_law_take (dCons (dNoP1 (dC (.int 44721))) dNil)))))
    (dSeq (dSet 4 (dNoP1 (dOp gAdd (dNoP1 (dOp gMul (dCall 2 c_law_take (dCons (dNoP1 (dC (.int 31623))) dNil)) (dNoP1 (dC (.int 31623))))) (dCall 2 c_law_take (dCons (dNoP1 (dC (.int 31623))) dNil)))))
    (dRet (dNoP1 (dCall 2 c_law_low (dCons (dOp gSub (dOp gMod (dVar 3) (dC (.int 1999999999))) (dC (.int 999999999))) (dCons (dOp gAdd (dC (.int 1)) (dOp gMod (dVar 4) (dC (.int 999999999)))) dNil)))))))))))))
/-- 20 takes at most -/
def t_law_place (c_law_frac : Ct) : TDS :=
  (dSeq (dSet 1 (dCall 1 c_law_frac dNil))
    (dRet (dTup (dCons (dNoP1 (dVar 1)) (dCons (dCall 1 c_law_frac dNil) dNil)))))
/-- 39 takes at most -/
def t_law_making (c_law_take : Ct) (c_law_place : Ct) (c_law_low : Ct) : TDS :=
  (dSeq (dSet 2 (dNoP1 (dOp gDGet (dVar 1) (dC (.str "point")))))
    (dSeq (dSet 3 (dNoP1 (dOp gDGet (dVar 1) (dC (.str "line")))))
    (dSeq (dSet 4 (dNoP1 (dOp gDGet (dVar 1) (dC (.str "circle")))))
    (dSeq (dSet 5 (dCall 2 c_law_take (dCons (dNoP1 (dC (.int 24))) dNil)))
    (dSeq (dIf (dOr (dCmpT (cInt fun i j => decide (i < j)) (dVar 5) (dC (.int 5))) (dCmpT cEq (dUn gLen (dVar 2)) (dC (.int 0)))) (dRet (dNoP1 (dOp gCatT (dNoP1 (dTup (dCons (dC (.str "free")) dNil))) (dCall 1 c_law_place dNil)))) dSkip)
    (dSeq (dSet 6 (dNoP1 (dOp gIx (dNoP1 (dVar 2)) (dCall 2 c_law_take (dCons (dNoP1 (dUn gLen (dVar 2))) dNil)))))
    (dSeq (dSet 7 (dNoP1 (dOp gIx (dNoP1 (dVar 2)) (dCall 2 c_law_take (dCons (dNoP1 (dUn gLen (dVar 2))) dNil)))))
    (dSeq (dIf (dCmpT cEq (dVar 5) (dC (.int 6))) (dRet (dTup (dCons (dNoP1 (dC (.str "share"))) (dCons (dNoP1 (dVar 6)) (dCons (dNoP1 (dVar 7)) (dCons (dNoP1 (dCall 2 c_law_low (dCons (dNoP1 (dOp gSub (dCall 2 c_law_take (dCons (dNoP1 (dC (.int 13))) dNil)) (dNoP1 (dC (.int 6))))) (dCons (dNoP1 (dOp gAdd (dNoP1 (dC (.int 1))) (dCall 2 c_law_take (dCons (dNoP1 (dC (.int 5))) dNil)))) dNil)))) dNil)))))) dSkip)
    (dSeq (dIf (dCmpT (cInt fun i j => decide (i < j)) (dVar 5) (dC (.int 9))) (dRet (dNoP1 (dTup (dCons (dOp gIx (dLst (dCons (dC (.str "middle")) (dCons (dC (.str "share")) (dCons (dC (.str "next")) (dCons (dC (.str "turn")) dNil))))) (dOp gSub (dVar 5) (dC (.int 5)))) (dCons (dVar 6) (dCons (dVar 7) dNil)))))) dSkip)
    (dSeq (dIf (dOr (dCmpT (cInt fun i j => decide (i < j)) (dVar 5) (dC (.int 12))) (dAnd (dCmpT (cInt fun i j => decide (i < j)) (dVar 5) (dC (.int 18))) (dCmpT cEq (dUn gLen (dVar 3)) (dC (.int 0))))) (dRet (dNoP1 (dTup (dCons (dC (.str "line")) (dCons (dVar 6) (dCons (dVar 7) dNil)))))) dSkip)
    (dSeq (dIf (dOr (dCmpT cEq (dVar 5) (dC (.int 16))) (dCmpT cEq (dVar 5) (dC (.int 17)))) (dRet (dTup (dCons (dNoP1 (dC (.str "meet"))) (dCons (dNoP1 (dOp gIx (dNoP1 (dVar 3)) (dCall 2 c_law_take (dCons (dNoP1 (dUn gLen (dVar 3))) dNil)))) (dCons (dNoP1 (dOp gIx (dNoP1 (dVar 3)) (dCall 2 c_law_take (dCons (dNoP1 (dUn gLen (dVar 3))) dNil)))) dNil))))) dSkip)
    (dSeq (dIf (dCmpT (cInt fun i j => decide (i < j)) (dVar 5) (dC (.int 16))) (dRet (dTup (dCons (dNoP1 (dOp gIx (dLst (dCons (dC (.str "along")) (dCons (dC (.str "upright")) (dCons (dC (.str "foot")) (dCons (dC (.str "mirror")) dNil))))) (dOp gSub (dVar 5) (dC (.int 12))))) (dCons (dNoP1 (dVar 6)) (dCons (dNoP1 (dOp gIx (dNoP1 (dVar 3)) (dCall 2 c_law_take (dCons (dNoP1 (dUn gLen (dVar 3))) dNil)))) dNil))))) dSkip)
    (dSeq (dIf (dOr (dCmpT (cInt fun i j => decide (i < j)) (dVar 5) (dC (.int 20))) (dAnd (dCmpT (cInt fun i j => decide (i < j)) (dVar 5) (dC (.int 22))) (dCmpT cEq (dUn gLen (dVar 4)) (dC (.int 0))))) (dRet (dNoP1 (dTup (dCons (dC (.str "circle")) (dCons (dVar 6) (dCons (dVar 7) dNil)))))) dSkip)
    (dSeq (dIf (dAnd (dCmpT cEq (dVar 5) (dC (.int 20))) (dCmpT (cInt fun i j => decide (j < i)) (dUn gLen (dVar 3)) (dC (.int 0)))) (dSeq (dSet 10 (dNoP1 (dOp gIx (dNoP1 (dVar 3)) (dCall 2 c_law_take (dCons (dNoP1 (dUn gLen (dVar 3))) dNil)))))
    (dRet (dTup (dCons (dNoP1 (dC (.str "cut"))) (dCons (dNoP1 (dVar 10)) (dCons (dNoP1 (dOp gIx (dNoP1 (dVar 4)) (dCall 2 c_law_take (dCons (dNoP1 (dUn gLen (dVar 4))) dNil)))) (dCons (dNoP1 (dOp gAdd (dNoP1 (dC (.int 1))) (dCall 2 c_law_take (dCons (dNoP1 (dC (.int 2))) dNil)))) dNil))))))) dSkip)
    (dSeq (dIf (dCmpT (cInt fun i j => decide (i < j)) (dVar 5) (dC (.int 22))) (dSeq (dSet 11 (dNoP1 (dOp gIx (dNoP1 (dVar 4)) (dCall 2 c_law_take (dCons (dNoP1 (dUn gLen (dVar 4))) dNil)))))
    (dRet (dTup (dCons (dNoP1 (dC (.str "cut"))) (dCons (dNoP1 (dVar 11)) (dCons (dNoP1 (dOp gIx (dNoP1 (dVar 4)) (dCall 2 c_law_take (dCons (dNoP1 (dUn gLen (dVar 4))) dNil)))) (dCons (dNoP1 (dOp gAdd (dNoP1 (dC (.int 1))) (dCall 2 c_law_take (dCons (dNoP1 (dC (.int 2))) dNil)))) dNil))))))) dSkip)
    (dSeq (dSet 8 (dNoP1 (dOp gIx (dNoP1 (dVar 2)) (dCall 2 c_law_take (dCons (dNoP1 (dUn gLen (dVar 2))) dNil)))))
    (dSeq (dSet 9 (dCall 2 c_law_take (dCons (dNoP1 (dC (.int 5))) dNil)))
    (dSeq (dIf (dAnd (dCmpT (cInt fun i j => decide (j < i)) (dVar 9) (dC (.int 2))) (dCmpT (cInt fun i j => decide (j < i)) (dUn gLen (dVar 3)) (dC (.int 0)))) (dSeq (dSet 10 (dNoP1 (dOp gIx (dNoP1 (dVar 3)) (dCall 2 c_law_take (dCons (dNoP1 (dUn gLen (dVar 3))) dNil)))))
    (dRet (dTup (dCons (dNoP1 (dOp gIx (dLst (dCons (dC (.str "beside")) (dCons (dC (.str "square")) dNil))) (dOp gSub (dVar 9) (dC (.int 3))))) (dCons (dNoP1 (dVar 10)) (dCons (dNoP1 (dOp gIx (dNoP1 (dVar 3)) (dCall 2 c_law_take (dCons (dNoP1 (dUn gLen (dVar 3))) dNil)))) dNil)))))) dSkip)
    (dSeq (dIf (dOr (dCmpT cEq (dVar 9) (dC (.int 0))) (dCmpT (cInt fun i j => decide (j < i)) (dVar 9) (dC (.int 2)))) (dRet (dNoP1 (dTup (dCons (dC (.str "inline")) (dCons (dVar 6) (dCons (dVar 7) (dCons (dVar 8) dNil))))))) dSkip)
    (dRet (dTup (dCons (dNoP1 (dOp gIx (dLst (dCons (dC (.str "round")) (dCons (dC (.str "alike")) dNil))) (dOp gSub (dVar 9) (dC (.int 1))))) (dCons (dNoP1 (dVar 6)) (dCons (dNoP1 (dVar 7)) (dCons (dNoP1 (dVar 8)) (dCons (dNoP1 (dOp gIx (dNoP1 (dVar 2)) (dCall 2 c_law_take (dCons (dNoP1 (dUn gLen (dVar 2))) dNil)))) dNil))))))))))))))))))))))))))
/-- 23 takes at most -/
def t_law_plain_place (c_law_take : Ct) (c_law_place : Ct) : TDS :=
  (dSeq (dIf (dCmpT (cInt fun i j => decide (j < i)) (dCall 2 c_law_take (dCons (dNoP1 (dC (.int 3))) dNil)) (dNoP1 (dC (.int 0)))) (dRet (dTup (dCons (dTup (dCons (dNoP1 (dOp gSub (dCall 2 c_law_take (dCons (dNoP1 (dC (.int 5))) dNil)) (dNoP1 (dC (.int 2))))) (dCons (dNoP1 (dC (.int 1))) dNil))) (dCons (dTup (dCons (dNoP1 (dOp gSub (dCall 2 c_law_take (dCons (dNoP1 (dC (.int 3))) dNil)) (dNoP1 (dC (.int 1))))) (dCons (dNoP1 (dC (.int 1))) dNil))) dNil)))) dSkip)
    (dRet (dCall 1 c_law_place dNil)))
end Mb
set_option Elab.async false
set_option linter.all false
set_option maxRecDepth 100000
set_option maxHeartbeats 4000000
namespace Mb
open PySem PySem.Spec PyProof.Rows L2
/-! Derivations of the defs that draw: printed by gen_imp.py. -/
section
variable {P : Program} {w : World} {K : PySem.W.Frag} {mg : Str → Option Value} {base : Heap}
abbrev N_law_frac : List Str := [("_law_pool_here" : Str), ("_law_way" : Str), ("_law_edge" : Str), ("_law_top" : Str), ("_law_bottom" : Str)]
abbrev P_law_frac : List Str := [("_law_pool_here" : Str)]
theorem sc_law_frac : FnScope N_law_frac P_law_frac (defScope s_law_frac) := ⟨rfl, rfl, rfl, by decide +kernel, rfl, by decide +kernel, by decide +kernel⟩
theorem der_law_frac {c_law_take : Ct} {c_law_low : Ct} (h_law_take : HasI P w K mg base 1 "_law_take" 2 1 c_law_take) (h_law_low : Has P w K mg base 2 "_law_low" 2 c_law_low) (n : Nat) (hn : n + 10 ≤ 100000) (f : Addr) (cdv : Value) (A : Around) (outer : List Env) (s : Shared) (H : Hp) (E : XK) (hr : Room 2 (A.deeper (envOfC "_law_frac" (defScope s_law_frac) s.heap.objs.size f cdv))) : PISs (bodyX P w K mg base N_law_frac "_law_frac" s_law_frac f cdv A outer s H E) n (n + 10) (defBody s_law_frac) (t_law_frac c_law_take c_law_low) :=
  piss_up (piss_cons (pis_set (i := 1) sc_law_frac.nd (pi_callI h_law_take (hr.mono (by decide)) rfl (pia_cons (pi_pd pd_int) pia_nil) (by omega)))
    (piss_cons (pis_if (k := n + 2) (pit_pd (ptd_cmp op_lt lk_int cInt_mo (dv 1) pd_int (nomark _))) (piss_up (piss_one (pis_ret (pi_tup (pia_cons (pi_op op_sub lk_sub gSub_mo (pi_callI h_law_take (hr.mono (by decide)) rfl (pia_cons (pi_pd pd_int) pia_nil) (by omega)) (pi_pd pd_int)) (pia_cons (pi_pd pd_int) pia_nil))))) (by omega)) (piss_up piss_nil (by omega)))
    (piss_cons (pis_if (k := n + 4) (pit_pd (ptd_cmp op_lt lk_int cInt_mo (dv 1) pd_int (nomark _))) (piss_up (piss_one (pis_ret (pi_call h_law_low (hr.mono (by decide)) rfl (pia_cons (pi_op op_sub lk_sub gSub_mo (pi_callI h_law_take (hr.mono (by decide)) rfl (pia_cons (pi_pd pd_int) pia_nil) (by omega)) (pi_pd pd_int)) (pia_cons (pi_op op_add lk_add gAdd_mo (pi_pd pd_int) (pi_callI h_law_take (hr.mono (by decide)) rfl (pia_cons (pi_pd pd_int) pia_nil) (by omega))) pia_nil))))) (by omega)) (piss_up piss_nil (by omega)))
    (piss_cons (pis_if (k := n + 5) (pit_pd (ptd_cmp (op_eqA hr.units) lk_eq cEq_mo (dv 1) pd_int (nomark _))) (piss_up (piss_one (pis_ret (pi_tup (pia_cons (pi_op op_sub lk_sub gSub_mo (pi_callI h_law_take (hr.mono (by decide)) rfl (pia_cons (pi_pd pd_int) pia_nil) (by omega)) (pi_pd pd_int)) (pia_cons (pi_pd pd_int) pia_nil))))) (by omega)) (piss_up piss_nil (by omega)))
    (piss_cons (pis_set (i := 2) sc_law_frac.nd (pi_callI h_law_take (hr.mono (by decide)) rfl (pia_cons (pi_pd pd_int) pia_nil) (by omega)))
    (piss_cons (pis_if (k := n + 6) (pit_pd (ptd_cmp op_lt lk_int cInt_mo (dv 2) pd_int (nomark _))) (piss_up (piss_one (pis_ret (pi_pd (pd_ix ix_tl lk_ix gIx_mo (pd_lst (pda_cons (pd_tup (pda_cons pd_int (pda_cons pd_int pda_nil))) (pda_cons (pd_tup (pda_cons (pd_un un_neg lk_neg gNeg_mo pd_int) (pda_cons pd_int pda_nil))) (pda_cons (pd_tup (pda_cons pd_int (pda_cons pd_int pda_nil))) (pda_cons (pd_tup (pda_cons (pd_un un_neg lk_neg gNeg_mo pd_int) (pda_cons pd_int pda_nil))) pda_nil))))) (dv 2))))) (by omega)) (piss_up piss_nil (by omega)))
    (piss_cons (pis_set (i := 3) sc_law_frac.nd (pi_op op_add lk_add gAdd_mo (pi_op op_mulW lk_mul gMul_mo (pi_callI h_law_take (hr.mono (by decide)) rfl (pia_cons (pi_pd pd_int) pia_nil) (by omega)) (pi_pd pd_int)) (pi_callI h_law_take (hr.mono (by decide)) rfl (pia_cons (pi_pd pd_int) pia_nil) (by omega))))
    (piss_cons (pis_set (i := 4) sc_law_frac.nd (pi_op op_add lk_add gAdd_mo (pi_op op_mulW lk_mul gMul_mo (pi_callI h_law_take (hr.mono (by decide)) rfl (pia_cons (pi_pd pd_int) pia_nil) (by omega)) (pi_pd pd_int)) (pi_callI h_law_take (hr.mono (by decide)) rfl (pia_cons (pi_pd pd_int) pia_nil) (by omega))))
    (piss_one (pis_ret (pi_pd (pd_call h_law_low (hr.mono (by decide)) rfl (pda_cons (pd_op op_sub lk_sub gSub_mo (pd_op op_modN lk_mod gMod_mo (dv 3) pd_int) pd_int) (pda_cons (pd_op op_add lk_add gAdd_mo pd_int (pd_op op_modN lk_mod gMod_mo (dv 4) pd_int)) pda_nil)))))) (by omega)) (by omega)) (by omega)) (by omega)) (by omega)) (by omega)) (by omega)) (by omega)) (by omega)
abbrev N_law_place : List Str := [("_law_pool_here" : Str), ("_law_x" : Str)]
abbrev P_law_place : List Str := [("_law_pool_here" : Str)]
theorem sc_law_place : FnScope N_law_place P_law_place (defScope s_law_place) := ⟨rfl, rfl, rfl, by decide +kernel, rfl, by decide +kernel, by decide +kernel⟩
theorem der_law_place {c_law_frac : Ct} (h_law_frac : HasI P w K mg base 3 "_law_frac" 1 10 c_law_frac) (n : Nat) (hn : n + 20 ≤ 100000) (f : Addr) (cdv : Value) (A : Around) (outer : List Env) (s : Shared) (H : Hp) (E : XK) (hr : Room 3 (A.deeper (envOfC "_law_place" (defScope s_law_place) s.heap.objs.size f cdv))) : PISs (bodyX P w K mg base N_law_place "_law_place" s_law_place f cdv A outer s H E) n (n + 20) (defBody s_law_place) (t_law_place c_law_frac) :=
  piss_up (piss_cons (pis_set (i := 1) sc_law_place.nd (pi_callI h_law_frac (hr.mono (by decide)) rfl pia_nil (by omega)))
    (piss_one (pis_ret (pi_tup (pia_cons (pi_pd (dv 1)) (pia_cons (pi_callI h_law_frac (hr.mono (by decide)) rfl pia_nil (by omega)) pia_nil))))) (by omega)) (by omega)
abbrev N_law_making : List Str := [("_law_pool_here" : Str), ("_law_by" : Str), ("_law_points" : Str), ("_law_lines" : Str), ("_law_rings" : Str), ("_law_way" : Str), ("_law_p" : Str), ("_law_q" : Str), ("_law_r" : Str), ("_law_word" : Str), ("_law_line" : Str), ("_law_ring" : Str)]
abbrev P_law_making : List Str := [("_law_pool_here" : Str), ("_law_by" : Str)]
theorem sc_law_making : FnScope N_law_making P_law_making (defScope s_law_making) := ⟨rfl, rfl, rfl, by decide +kernel, rfl, by decide +kernel, by decide +kernel⟩
theorem der_law_making {c_law_take : Ct} {c_law_place : Ct} {c_law_low : Ct} (h_law_take : HasI P w K mg base 1 "_law_take" 2 1 c_law_take) (h_law_place : HasI P w K mg base 4 "_law_place" 1 20 c_law_place) (m_len : mg "len" = none) (h_law_low : Has P w K mg base 2 "_law_low" 2 c_law_low) (n : Nat) (hn : n + 39 ≤ 100000) (f : Addr) (cdv : Value) (A : Around) (outer : List Env) (s : Shared) (H : Hp) (E : XK) (hr : Room 4 (A.deeper (envOfC "_law_making" (defScope s_law_making) s.heap.objs.size f cdv))) : PISs (bodyX P w K mg base N_law_making "_law_making" s_law_making f cdv A outer s H E) n (n + 39) (defBody s_law_making) (t_law_making c_law_take c_law_place c_law_low) :=
  piss_up (piss_cons (pis_set (i := 2) sc_law_making.nd (pi_pd (pd_dget (hu_of hr) (dv 1) pd_str)))
    (piss_cons (pis_set (i := 3) sc_law_making.nd (pi_pd (pd_dget (hu_of hr) (dv 1) pd_str)))
    (piss_cons (pis_set (i := 4) sc_law_making.nd (pi_pd (pd_dget (hu_of hr) (dv 1) pd_str)))
    (piss_cons (pis_set (i := 5) sc_law_making.nd (pi_callI h_law_take (hr.mono (by decide)) rfl (pia_cons (pi_pd pd_int) pia_nil) (by omega)))
    (piss_cons (pis_if (k := n + 21) (pit_pd (PDW.pt (pdw_or (ptd_cmp op_lt lk_int cInt_mo (dv 5) pd_int (nomark _)) (pdw_or1 (ptd_cmp (op_eqA hr.units) lk_eq cEq_mo (pd_callB call_lenA lk_len gLen_mo rfl m_len boot_len (dv 2)) pd_int (nomark _)))))) (piss_up (piss_one (pis_ret (pi_op op_catT lk_catT gCatT_mo (pi_pd (pd_tup (pda_cons pd_str pda_nil))) (pi_callI h_law_place (hr.mono (by decide)) rfl pia_nil (by omega))))) (by omega)) (piss_up piss_nil (by omega)))
    (piss_cons (pis_set (i := 6) sc_law_making.nd (pi_ix ix_tl lk_ix gIx_mo (pi_pd (dv 2)) (pi_callI h_law_take (hr.mono (by decide)) rfl (pia_cons (pi_pd (pd_callB call_lenA lk_len gLen_mo rfl m_len boot_len (dv 2))) pia_nil) (by omega))))
    (piss_cons (pis_set (i := 7) sc_law_making.nd (pi_ix ix_tl lk_ix gIx_mo (pi_pd (dv 2)) (pi_callI h_law_take (hr.mono (by decide)) rfl (pia_cons (pi_pd (pd_callB call_lenA lk_len gLen_mo rfl m_len boot_len (dv 2))) pia_nil) (by omega))))
    (piss_cons (pis_if (k := n + 25) (pit_pd (ptd_cmp (op_eqA hr.units) lk_eq cEq_mo (dv 5) pd_int (nomark _))) (piss_up (piss_one (pis_ret (pi_tup (pia_cons (pi_pd pd_str) (pia_cons (pi_pd (dv 6)) (pia_cons (pi_pd (dv 7)) (pia_cons (pi_call h_law_low (hr.mono (by decide)) rfl (pia_cons (pi_op op_sub lk_sub gSub_mo (pi_callI h_law_take (hr.mono (by decide)) rfl (pia_cons (pi_pd pd_int) pia_nil) (by omega)) (pi_pd pd_int)) (pia_cons (pi_op op_add lk_add gAdd_mo (pi_pd pd_int) (pi_callI h_law_take (hr.mono (by decide)) rfl (pia_cons (pi_pd pd_int) pia_nil) (by omega))) pia_nil))) pia_nil))))))) (by omega)) (piss_up piss_nil (by omega)))
    (piss_cons (pis_if (k := n + 25) (pit_pd (ptd_cmp op_lt lk_int cInt_mo (dv 5) pd_int (nomark _))) (piss_up (piss_one (pis_ret (pi_pd (pd_tup (pda_cons (pd_ix ix_tl lk_ix gIx_mo (pd_lst (pda_cons pd_str (pda_cons pd_str (pda_cons pd_str (pda_cons pd_str pda_nil))))) (pd_op op_sub lk_sub gSub_mo (dv 5) pd_int)) (pda_cons (dv 6) (pda_cons (dv 7) pda_nil))))))) (by omega)) (piss_up piss_nil (by omega)))
    (piss_cons (pis_if (k := n + 25) (pit_pd (PDW.pt (pdw_or (ptd_cmp op_lt lk_int cInt_mo (dv 5) pd_int (nomark _)) (pdw_or1 (PDW.pt (pdw_and (ptd_cmp op_lt lk_int cInt_mo (dv 5) pd_int (nomark _)) (pdw_and1 (ptd_cmp (op_eqA hr.units) lk_eq cEq_mo (pd_callB call_lenA lk_len gLen_mo rfl m_len boot_len (dv 3)) pd_int (nomark _))))))))) (piss_up (piss_one (pis_ret (pi_pd (pd_tup (pda_cons pd_str (pda_cons (dv 6) (pda_cons (dv 7) pda_nil))))))) (by omega)) (piss_up piss_nil (by omega)))
    (piss_cons (pis_if (k := n + 27) (pit_pd (PDW.pt (pdw_or (ptd_cmp (op_eqA hr.units) lk_eq cEq_mo (dv 5) pd_int (nomark _)) (pdw_or1 (ptd_cmp (op_eqA hr.units) lk_eq cEq_mo (dv 5) pd_int (nomark _)))))) (piss_up (piss_one (pis_ret (pi_tup (pia_cons (pi_pd pd_str) (pia_cons (pi_ix ix_tl lk_ix gIx_mo (pi_pd (dv 3)) (pi_callI h_law_take (hr.mono (by decide)) rfl (pia_cons (pi_pd (pd_callB call_lenA lk_len gLen_mo rfl m_len boot_len (dv 3))) pia_nil) (by omega))) (pia_cons (pi_ix ix_tl lk_ix gIx_mo (pi_pd (dv 3)) (pi_callI h_law_take (hr.mono (by decide)) rfl (pia_cons (pi_pd (pd_callB call_lenA lk_len gLen_mo rfl m_len boot_len (dv 3))) pia_nil) (by omega))) pia_nil)))))) (by omega)) (piss_up piss_nil (by omega)))
    (piss_cons (pis_if (k := n + 28) (pit_pd (ptd_cmp op_lt lk_int cInt_mo (dv 5) pd_int (nomark _))) (piss_up (piss_one (pis_ret (pi_tup (pia_cons (pi_pd (pd_ix ix_tl lk_ix gIx_mo (pd_lst (pda_cons pd_str (pda_cons pd_str (pda_cons pd_str (pda_cons pd_str pda_nil))))) (pd_op op_sub lk_sub gSub_mo (dv 5) pd_int))) (pia_cons (pi_pd (dv 6)) (pia_cons (pi_ix ix_tl lk_ix gIx_mo (pi_pd (dv 3)) (pi_callI h_law_take (hr.mono (by decide)) rfl (pia_cons (pi_pd (pd_callB call_lenA lk_len gLen_mo rfl m_len boot_len (dv 3))) pia_nil) (by omega))) pia_nil)))))) (by omega)) (piss_up piss_nil (by omega)))
    (piss_cons (pis_if (k := n + 28) (pit_pd (PDW.pt (pdw_or (ptd_cmp op_lt lk_int cInt_mo (dv 5) pd_int (nomark _)) (pdw_or1 (PDW.pt (pdw_and (ptd_cmp op_lt lk_int cInt_mo (dv 5) pd_int (nomark _)) (pdw_and1 (ptd_cmp (op_eqA hr.units) lk_eq cEq_mo (pd_callB call_lenA lk_len gLen_mo rfl m_len boot_len (dv 4)) pd_int (nomark _))))))))) (piss_up (piss_one (pis_ret (pi_pd (pd_tup (pda_cons pd_str (pda_cons (dv 6) (pda_cons (dv 7) pda_nil))))))) (by omega)) (piss_up piss_nil (by omega)))
    (piss_cons (pis_if (k := n + 31) (pit_pd (PDW.pt (pdw_and (ptd_cmp (op_eqA hr.units) lk_eq cEq_mo (dv 5) pd_int (nomark _)) (pdw_and1 (ptd_cmp op_gt lk_int cInt_mo (pd_callB call_lenA lk_len gLen_mo rfl m_len boot_len (dv 3)) pd_int (nomark _)))))) (piss_up (piss_cons (pis_set (i := 10) sc_law_making.nd (pi_ix ix_tl lk_ix gIx_mo (pi_pd (dv 3)) (pi_callI h_law_take (hr.mono (by decide)) rfl (pia_cons (pi_pd (pd_callB call_lenA lk_len gLen_mo rfl m_len boot_len (dv 3))) pia_nil) (by omega))))
    (piss_one (pis_ret (pi_tup (pia_cons (pi_pd pd_str) (pia_cons (pi_pd (dv 10)) (pia_cons (pi_ix ix_tl lk_ix gIx_mo (pi_pd (dv 4)) (pi_callI h_law_take (hr.mono (by decide)) rfl (pia_cons (pi_pd (pd_callB call_lenA lk_len gLen_mo rfl m_len boot_len (dv 4))) pia_nil) (by omega))) (pia_cons (pi_op op_add lk_add gAdd_mo (pi_pd pd_int) (pi_callI h_law_take (hr.mono (by decide)) rfl (pia_cons (pi_pd pd_int) pia_nil) (by omega))) pia_nil))))))) (by omega)) (by omega)) (piss_up piss_nil (by omega)))
    (piss_cons (pis_if (k := n + 34) (pit_pd (ptd_cmp op_lt lk_int cInt_mo (dv 5) pd_int (nomark _))) (piss_up (piss_cons (pis_set (i := 11) sc_law_making.nd (pi_ix ix_tl lk_ix gIx_mo (pi_pd (dv 4)) (pi_callI h_law_take (hr.mono (by decide)) rfl (pia_cons (pi_pd (pd_callB call_lenA lk_len gLen_mo rfl m_len boot_len (dv 4))) pia_nil) (by omega))))
    (piss_one (pis_ret (pi_tup (pia_cons (pi_pd pd_str) (pia_cons (pi_pd (dv 11)) (pia_cons (pi_ix ix_tl lk_ix gIx_mo (pi_pd (dv 4)) (pi_callI h_law_take (hr.mono (by decide)) rfl (pia_cons (pi_pd (pd_callB call_lenA lk_len gLen_mo rfl m_len boot_len (dv 4))) pia_nil) (by omega))) (pia_cons (pi_op op_add lk_add gAdd_mo (pi_pd pd_int) (pi_callI h_law_take (hr.mono (by decide)) rfl (pia_cons (pi_pd pd_int) pia_nil) (by omega))) pia_nil))))))) (by omega)) (by omega)) (piss_up piss_nil (by omega)))
    (piss_cons (pis_set (i := 8) sc_law_making.nd (pi_ix ix_tl lk_ix gIx_mo (pi_pd (dv 2)) (pi_callI h_law_take (hr.mono (by decide)) rfl (pia_cons (pi_pd (pd_callB call_lenA lk_len gLen_mo rfl m_len boot_len (dv 2))) pia_nil) (by omega))))
    (piss_cons (pis_set (i := 9) sc_law_making.nd (pi_callI h_law_take (hr.mono (by decide)) rfl (pia_cons (pi_pd pd_int) pia_nil) (by omega)))
    (piss_cons (pis_if (k := n + 38) (pit_pd (PDW.pt (pdw_and (ptd_cmp op_gt lk_int cInt_mo (dv 9) pd_int (nomark _)) (pdw_and1 (ptd_cmp op_gt lk_int cInt_mo (pd_callB call_lenA lk_len gLen_mo rfl m_len boot_len (dv 3)) pd_int (nomark _)))))) (piss_up (piss_cons (pis_set (i := 10) sc_law_making.nd (pi_ix ix_tl lk_ix gIx_mo (pi_pd (dv 3)) (pi_callI h_law_take (hr.mono (by decide)) rfl (pia_cons (pi_pd (pd_callB call_lenA lk_len gLen_mo rfl m_len boot_len (dv 3))) pia_nil) (by omega))))
    (piss_one (pis_ret (pi_tup (pia_cons (pi_pd (pd_ix ix_tl lk_ix gIx_mo (pd_lst (pda_cons pd_str (pda_cons pd_str pda_nil))) (pd_op op_sub lk_sub gSub_mo (dv 9) pd_int))) (pia_cons (pi_pd (dv 10)) (pia_cons (pi_ix ix_tl lk_ix gIx_mo (pi_pd (dv 3)) (pi_callI h_law_take (hr.mono (by decide)) rfl (pia_cons (pi_pd (pd_callB call_lenA lk_len gLen_mo rfl m_len boot_len (dv 3))) pia_nil) (by omega))) pia_nil)))))) (by omega)) (by omega)) (piss_up piss_nil (by omega)))
    (piss_cons (pis_if (k := n + 38) (pit_pd (PDW.pt (pdw_or (ptd_cmp (op_eqA hr.units) lk_eq cEq_mo (dv 9) pd_int (nomark _)) (pdw_or1 (ptd_cmp op_gt lk_int cInt_mo (dv 9) pd_int (nomark _)))))) (piss_up (piss_one (pis_ret (pi_pd (pd_tup (pda_cons pd_str (pda_cons (dv 6) (pda_cons (dv 7) (pda_cons (dv 8) pda_nil)))))))) (by omega)) (piss_up piss_nil (by omega)))
    (piss_one (pis_ret (pi_tup (pia_cons (pi_pd (pd_ix ix_tl lk_ix gIx_mo (pd_lst (pda_cons pd_str (pda_cons pd_str pda_nil))) (pd_op op_sub lk_sub gSub_mo (dv 9) pd_int))) (pia_cons (pi_pd (dv 6)) (pia_cons (pi_pd (dv 7)) (pia_cons (pi_pd (dv 8)) (pia_cons (pi_ix ix_tl lk_ix gIx_mo (pi_pd (dv 2)) (pi_callI h_law_take (hr.mono (by decide)) rfl (pia_cons (pi_pd (pd_callB call_lenA lk_len gLen_mo rfl m_len boot_len (dv 2))) pia_nil) (by omega))) pia_nil)))))))) (by omega)) (by omega)) (by omega)) (by omega)) (by omega)) (by omega)) (by omega)) (by omega)) (by omega)) (by omega)) (by omega)) (by omega)) (by omega)) (by omega)) (by omega)) (by omega)) (by omega)) (by omega)) (by omega)) (by omega)
abbrev N_law_plain_place : List Str := [("_law_pool_here" : Str)]
abbrev P_law_plain_place : List Str := [("_law_pool_here" : Str)]
theorem sc_law_plain_place : FnScope N_law_plain_place P_law_plain_place (defScope s_law_plain_place) := ⟨rfl, rfl, rfl, by decide +kernel, rfl, by decide +kernel, by decide +kernel⟩
theorem der_law_plain_place {c_law_take : Ct} {c_law_place : Ct} (h_law_take : HasI P w K mg base 1 "_law_take" 2 1 c_law_take) (h_law_place : HasI P w K mg base 4 "_law_place" 1 20 c_law_place) (n : Nat) (hn : n + 23 ≤ 100000) (f : Addr) (cdv : Value) (A : Around) (outer : List Env) (s : Shared) (H : Hp) (E : XK) (hr : Room 4 (A.deeper (envOfC "_law_plain_place" (defScope s_law_plain_place) s.heap.objs.size f cdv))) : PISs (bodyX P w K mg base N_law_plain_place "_law_plain_place" s_law_plain_place f cdv A outer s H E) n (n + 23) (defBody s_law_plain_place) (t_law_plain_place c_law_take c_law_place) :=
  piss_up (piss_cons (pis_if (k := n + 3) (pit_cmp op_gt lk_int cInt_mo (pi_callI h_law_take (hr.mono (by decide)) rfl (pia_cons (pi_pd pd_int) pia_nil) (by omega)) (pi_pd pd_int) (nomark _)) (piss_up (piss_one (pis_ret (pi_tup (pia_cons (pi_tup (pia_cons (pi_op op_sub lk_sub gSub_mo (pi_callI h_law_take (hr.mono (by decide)) rfl (pia_cons (pi_pd pd_int) pia_nil) (by omega)) (pi_pd pd_int)) (pia_cons (pi_pd pd_int) pia_nil))) (pia_cons (pi_tup (pia_cons (pi_op op_sub lk_sub gSub_mo (pi_callI h_law_take (hr.mono (by decide)) rfl (pia_cons (pi_pd pd_int) pia_nil) (by omega)) (pi_pd pd_int)) (pia_cons (pi_pd pd_int) pia_nil))) pia_nil))))) (by omega)) (piss_up piss_nil (by omega)))
    (piss_one (pis_ret (pi_callI h_law_place (hr.mono (by decide)) rfl pia_nil (by omega)))) (by omega)) (by omega)
end
end Mb
set_option Elab.async false
set_option linter.all false
set_option maxRecDepth 100000
set_option maxHeartbeats 1000000
namespace Mb
open PySem PySem.Spec PyProof.Rows L2
local macro_rules | `(tactic| walk_at "nrm") => `(tactic| try dsimp only [startD, startI, setAll, gSub, gAdd, gNeg, List.map, List.length, List.replicate, HAppend.hAppend, Append.append, List.append, List.set, Nat.reduceAdd, Nat.reduceSub])
/-! ### draws -/
theorem frac_le {q : Rat} {a b : Int} (hb : 0 < b) (e : q = (a : Rat) / b) : q.num.natAbs ≤ a.natAbs ∧ q.den ≤ b.natAbs := by
  subst e
  have hg : 0 < Int.gcd a b := Int.gcd_pos_of_ne_zero_right a (by omega)
  have da : ((Int.gcd a b : Nat) : Int) ∣ a := Int.gcd_dvd_left ..
  have db : ((Int.gcd a b : Nat) : Int) ∣ b := Int.gcd_dvd_right ..
  obtain ⟨e, _⟩ := frac_val (a := a) (b := b) (s := ((Int.gcd a b : Nat) : Int)) (by omega) (by rw [if_neg (by omega)])
  unfold fr at e
  simp only [PyData.tuple.injEq, List.cons.injEq, PyData.int.injEq, and_true] at e
  obtain ⟨e1, e2⟩ := e
  have key : ∀ x : Int, ((Int.gcd a b : Nat) : Int) ∣ x → (x.fdiv ((Int.gcd a b : Nat) : Int)).natAbs ≤ x.natAbs := fun x ⟨k, hk⟩ => by
    rw [hk, Int.mul_fdiv_cancel_left _ (by omega), Int.natAbs_mul]
    exact Nat.le_mul_of_pos_left _ (by omega)
  have k1 := key a da
  have k2 := key b db
  rw [← e1] at k1
  rw [← e2] at k2
  exact ⟨k1, by simpa using k2⟩
def c_law_frac : Ct := fun ds Q => ds = [] ∧ ∀ q : Rat, Wn 1000000000 q → Q (fr q)
theorem mo_law_frac : MoC c_law_frac := fun ds P P' m ⟨h1, h2⟩ => ⟨h1, fun q hq => m _ (h2 q hq)⟩
theorem wn_int {i : Int} (h : i.natAbs < 1000000000) : Wn 1000000000 (i : Rat) := ⟨by rw [Rat.num_intCast]; exact h, by rw [Rat.den_intCast]; decide⟩
theorem wn_div {a b : Int} (hb : 0 < b) (h1 : a.natAbs < 1000000000) (h2 : b < 1000000000) : Wn 1000000000 ((a : Rat) / b) := by
  obtain ⟨h3, h4⟩ := frac_le (q := (a : Rat) / b) (a := a) hb rfl
  exact ⟨by omega, by omega⟩
theorem edges : ∀ i : Nat, i < 4 → ∃ k l : Int, atI ([.tuple [.int 999999999, .int 1], .tuple [.int (-999999999), .int 1], .tuple [.int 1, .int 999999999], .tuple [.int (-999999998), .int 999999999]] : List PyData) (i : Int) = some (.tuple [.int k, .int l]) ∧ 0 < l ∧ l < 1000000000 ∧ k.natAbs < 1000000000 ∧ k.natAbs.Coprime l.natAbs := by
  intro i hi
  match i, hi with
  | 0, _ => exact ⟨999999999, 1, rfl, by decide, by decide, by decide, by decide +kernel⟩
  | 1, _ => exact ⟨-999999999, 1, rfl, by decide, by decide, by decide, by decide +kernel⟩
  | 2, _ => exact ⟨1, 999999999, rfl, by decide, by decide, by decide, by decide +kernel⟩
  | 3, _ => exact ⟨-999999998, 999999999, rfl, by decide, by decide, by decide, by decide +kernel⟩
theorem take_of {w : Int} {P : PyData → Prop} (h1 : 1 ≤ w) (h2 : w < 1000000) (h : ∀ r : Int, 0 ≤ r → r < w → P (.int r)) : c_law_take [.int w] P := ⟨w, rfl, h1, h2, h⟩
theorem rd_law_frac (ds : List PyData) (Q : PyData → Prop) (hl : ds.length + 1 = 1) (h : c_law_frac ds Q) : t_law_frac c_law_take c_fraction { nx := fun _ => Q .none, rt := Q } (startI 5 ds) := by
  obtain ⟨rfl, hQ⟩ := h
  refine ⟨rfl, _, rfl, by decide, by decide, fun way w0 w1 => ?_⟩
  walk_at "nrm"
  by_cases h1 : way < 4
  · refine seqIfT (fun P h => (show P (decide (way < 4)) by rw [decide_eq_true h1]; exact h)) ?_
    refine ⟨rfl, _, rfl, by decide, by decide, fun r r0 r1 => ⟨rfl, rfl, rfl, ?_⟩⟩
    have := hQ ((r - 4 : Int) : Rat) (wn_int (by omega))
    rw [fr_int] at this
    exact this
  refine seqIfF (fun P h => (show P (decide (way < 4)) by rw [decide_eq_false h1]; exact h)) (seqSkip ?_)
  by_cases h2 : way < 6
  · refine seqIfT (fun P h => (show P (decide (way < 6)) by rw [decide_eq_true h2]; exact h)) ?_
    refine ⟨rfl, _, rfl, by decide, by decide, fun r r0 r1 => ⟨rfl, rfl, rfl, rfl, _, rfl, by decide, by decide, fun s s0 s1 => ⟨rfl, ?_⟩⟩⟩
    have b : ∀ i : Int, i.natAbs < 1000 → Bz 13400 i := fun i h => by
      have : Bz 10 i := by unfold Bz; omega
      exact this.mono (by decide)
    refine ⟨r - 20, 1 + s, rfl, by omega, b _ (by omega), b _ (by omega), rfl, ?_⟩
    exact hQ _ (wn_div (by omega) (by omega) (by omega))
  refine seqIfF (fun P h => (show P (decide (way < 6)) by rw [decide_eq_false h2]; exact h)) (seqSkip ?_)
  by_cases h3 : way = 6
  · refine seqIfT (fun P h => (show P (decide (way = 6)) by rw [decide_eq_true h3]; exact h)) ?_
    refine ⟨rfl, _, rfl, by decide, by decide, fun r r0 r1 => ⟨rfl, rfl, rfl, ?_⟩⟩
    have := hQ ((r - 1000 : Int) : Rat) (wn_int (by omega))
    rw [fr_int] at this
    exact this
  refine seqIfF (fun P h => (show P (decide (way = 6)) by rw [decide_eq_false h3]; exact h)) (seqSkip ?_)
  refine ⟨rfl, _, rfl, by decide, by decide, fun e e0 e1 => ?_⟩
  walk_at "nrm"
  by_cases h4 : e < 4
  · refine seqIfT (fun P h => (show P (decide (e < 4)) by rw [decide_eq_true h4]; exact h)) ?_
    obtain ⟨k, l, ha, l0, l1, k1, hc⟩ := edges e.toNat (by omega)
    have ee : ((e.toNat : Nat) : Int) = e := by omega
    rw [ee] at ha
    show optK (atI _ e) _
    rw [ha]
    refine ⟨rfl, ?_⟩
    obtain ⟨n1, n2⟩ := div_mk l0 hc
    have := hQ _ (wn_div l0 k1 l1)
    unfold fr at this
    rw [n1, n2] at this
    exact this
  refine seqIfF (fun P h => (show P (decide (e < 4)) by rw [decide_eq_false h4]; exact h)) (seqSkip ?_)
  have bs : ∀ i : Int, i.natAbs < 2000000 → Bz 21 i := fun i h => by unfold Bz; omega
  refine ⟨rfl, _, rfl, by decide, by decide, fun a a0 a1 => ⟨rfl, (bs a (by omega)).mulW (bs 44721 (by decide)) (by decide), rfl, rfl, _, rfl, by decide, by decide, fun b b0 b1 => ⟨rfl, ?_⟩⟩⟩
  refine ⟨rfl, _, rfl, by decide, by decide, fun c c0 c1 => ⟨rfl, (bs c (by omega)).mulW (bs 31623 (by decide)) (by decide), rfl, rfl, _, rfl, by decide, by decide, fun d d0 d1 => ⟨rfl, ?_⟩⟩⟩
  walk_at "nrm"
  have t1 := fmod_lt (a := a * 44721 + b) (b := 1999999999) (by decide)
  have t2 := fmod_lt (a := c * 31623 + d) (b := 999999999) (by decide)
  have b : ∀ i : Int, i.natAbs < 1000000000 → Bz 13400 i := fun i h => by
    have : Bz 30 i := by unfold Bz; omega
    exact this.mono (by decide)
  refine ⟨by decide, by decide, _, _, rfl, by omega, b _ (by omega), b _ (by omega), rfl, ?_⟩
  exact hQ _ (wn_div (by omega) (by omega) (by omega))
def c_law_place : Ct := fun ds Q => ds = [] ∧ ∀ p : Pl, Wn 1000000000 p.1 → Wn 1000000000 p.2 → Q (pl p)
theorem mo_law_place : MoC c_law_place := fun ds P P' m ⟨h1, h2⟩ => ⟨h1, fun p hp hq => m _ (h2 p hp hq)⟩
theorem rd_law_place (ds : List PyData) (Q : PyData → Prop) (hl : ds.length + 1 = 1) (h : c_law_place ds Q) : t_law_place c_law_frac { nx := fun _ => Q .none, rt := Q } (startI 2 ds) := by
  obtain ⟨rfl, hQ⟩ := h
  exact ⟨rfl, fun x hx => ⟨rfl, rfl, fun y hy => hQ (x, y) hx hy⟩⟩
theorem rd_law_plain_place (ds : List PyData) (Q : PyData → Prop) (hl : ds.length + 1 = 1) (h : c_law_place ds Q) : t_law_plain_place c_law_take c_law_place { nx := fun _ => Q .none, rt := Q } (startI 1 ds) := by
  obtain ⟨rfl, hQ⟩ := h
  refine ⟨rfl, _, rfl, by decide, by decide, fun r r0 r1 => ⟨rfl, ?_⟩⟩
  show if decide (0 < r) = true then _ else _
  by_cases h1 : 0 < r
  · rw [if_pos (decide_eq_true h1)]
    refine ⟨rfl, _, rfl, by decide, by decide, fun a a0 a1 => ⟨rfl, rfl, rfl, rfl, _, rfl, by decide, by decide, fun b b0 b1 => ⟨rfl, rfl, rfl, ?_⟩⟩⟩
    have := hQ (((a - 2 : Int) : Rat), ((b - 1 : Int) : Rat)) (wn_int (by omega)) (wn_int (by omega))
    unfold pl at this
    simp only [fr_int] at this
    exact this
  · rw [if_neg (by simpa using h1)]
    exact ⟨rfl, hQ⟩
end Mb
set_option Elab.async false
set_option linter.all false
set_option maxRecDepth 100000
set_option maxHeartbeats 1000000
namespace Mb
open PySem PySem.Spec PyProof.Rows L2
local macro_rules | `(tactic| walk_at "nrm") => `(tactic| try dsimp only [startD, startI, setAll, gSub, gAdd, gNeg, List.map, List.length, List.replicate, HAppend.hAppend, Append.append, List.append, List.set, Nat.reduceAdd, Nat.reduceSub])
/-! ### a making drawn -/
structure By where
  pts : List Str
  lns : List Str
  cis : List Str
  cls : List Str
def byD (B : By) : PyData := .dict [(.str "point", .list (sds B.pts)), (.str "line", .list (sds B.lns)), (.str "circle", .list (sds B.cis)), (.str "claim", .list (sds B.cls))]
def Drawn (B : By) : Mk → Prop
  | .free x y => Wn 1000000000 x ∧ Wn 1000000000 y
  | .middle p q | .next p q | .turn p q | .line p q | .circle p q => p ∈ B.pts ∧ q ∈ B.pts
  | .share p q t => p ∈ B.pts ∧ q ∈ B.pts ∧ t.num.natAbs ≤ 7 ∧ t.den ≤ 7
  | .foot p l | .mirror p l | .along p l | .upright p l => p ∈ B.pts ∧ l ∈ B.lns
  | .meet l m | .beside l m | .square l m => l ∈ B.lns ∧ m ∈ B.lns
  | .cut u c k => (u ∈ B.lns ∨ u ∈ B.cis) ∧ c ∈ B.cis ∧ (k = 1 ∨ k = 2)
  | .inline p q r => p ∈ B.pts ∧ q ∈ B.pts ∧ r ∈ B.pts
  | .round p q r s | .alike p q r s => p ∈ B.pts ∧ q ∈ B.pts ∧ r ∈ B.pts ∧ s ∈ B.pts
structure ByOk (B : By) : Prop where
  p : B.pts.length < 1000
  l : B.lns.length < 1000
  c : B.cis.length < 1000
def c_law_making : Ct := fun ds Q => ∃ B, ds = [byD B] ∧ ByOk B ∧ ∀ m, Drawn B m → Q (mkD m)
theorem mo_law_making : MoC c_law_making := fun ds P P' m ⟨B, h1, h2, h3⟩ => ⟨B, h1, h2, fun x hx => m _ (h3 x hx)⟩
theorem noPs_sds : ∀ ns : List Str, noPs (sds ns) = true
  | [] => rfl
  | n :: ns => by
    show (true && noPs (sds ns)) = true
    rw [noPs_sds ns]
    rfl
theorem noP_sds (ns : List Str) : noP (.list (sds ns)) = true := by
  show (!((sds ns).length == 3 && (sds ns).all intD) && noPs (sds ns)) = true
  rw [noPs_sds, Bool.and_true]
  cases ns with
  | nil => rfl
  | cons n ns => simp [sds, intD]
theorem draw_of {a : Nat} {ns : List Str} {δ : Dn} {P : PyData → Prop} (h : δ[a]? = some (some (.list (sds ns)))) (h0 : ns ≠ []) (h1 : ns.length < 1000) (q : ∀ p ∈ ns, P (.str p)) : dNoP1 (dOp gIx (dNoP1 (dVar a)) (dCall 2 c_law_take (dCons (dNoP1 (dUn gLen (dVar a))) dNil))) δ P := by
  have hl : (sds ns).length = ns.length := by simp [sds]
  have pos : 0 < ns.length := List.length_pos_iff.mpr h0
  refine dVar_at h ⟨noP_sds ns, ?_⟩
  refine dVar_at h ⟨rfl, ((sds ns).length : Int), rfl, by omega, by omega, fun r r0 r1 => ?_⟩
  show optK (atI (sds ns) r) _
  have hr : r.toNat < ns.length := by omega
  have e : atI (sds ns) r = some (.str (ns[r.toNat])) := by
    unfold atI ixN
    rw [if_pos r0, if_pos (by omega)]
    show (sds ns)[r.toNat]? = _
    unfold sds
    rw [List.getElem?_map, List.getElem?_eq_getElem hr]
    rfl
  rw [e]
  exact ⟨rfl, q _ (List.getElem_mem hr)⟩
abbrev drawT (a : Nat) : TD := dNoP1 (dOp gIx (dNoP1 (dVar a)) (dCall 2 c_law_take (dCons (dNoP1 (dUn gLen (dVar a))) dNil)))
theorem seqDraw {a i : Nat} {ns : List Str} {δ : Dn} {u : TDS} {E : DE} (h : δ[a]? = some (some (.list (sds ns)))) (h0 : ns ≠ []) (h1 : ns.length < 1000) (q : ∀ p ∈ ns, u E (δ.set i (some (.str p)))) : dSeq (dSet i (drawT a)) u E δ := draw_of h h0 h1 q
theorem rd_law_making (ds : List PyData) (Q : PyData → Prop) (hl : ds.length + 1 = 2) (h : c_law_making ds Q) : t_law_making c_law_take c_law_place c_fraction { nx := fun _ => Q .none, rt := Q } (startI 12 ds) := by
  obtain ⟨B, rfl, ⟨lp, ll, lc⟩, hQ⟩ := h
  unfold t_law_making
  refine seqSetV (d := .list (sds B.pts)) (fun P h => ⟨noP_sds _, h⟩) ?_
  refine seqSetV (d := .list (sds B.lns)) (fun P h => ⟨noP_sds _, h⟩) ?_
  refine seqSetV (d := .list (sds B.cis)) (fun P h => ⟨noP_sds _, h⟩) ?_
  refine ⟨rfl, _, rfl, by decide, by decide, fun way w0 w1 => ?_⟩
  walk_at "nrm"
  have len0 : ∀ (ns : List Str), decide ((((sds ns).length : Nat) : Int) = 0) = decide (ns = []) := fun ns => by
    rw [decide_eq_decide]
    unfold sds
    cases ns <;> simp <;> omega
  have lenp : ∀ (ns : List Str), decide ((0 : Int) < (((sds ns).length : Nat) : Int)) = !decide (ns = []) := fun ns => by
    unfold sds
    cases ns <;> simp <;> omega
  have orT : ∀ {c : Prop} [Decidable c] {d : Bool} {P : Bool → Prop}, (c ∨ d = true) → P true → (if decide c = true then P true else P d) := fun {c _ d P} h p => by
    by_cases hc : c
    · rw [if_pos (decide_eq_true hc)]; exact p
    · rw [if_neg (by simpa using hc)]
      rcases h with h | h
      · exact absurd h hc
      · rw [h]; exact p
  have orF : ∀ {c : Prop} [Decidable c] {d : Bool} {P : Bool → Prop}, ¬ c → d = false → P false → (if decide c = true then P true else P d) := fun {c _ d P} hc hd p => by
    rw [if_neg (by simpa using hc), hd]; exact p
  by_cases h1 : way < 5 ∨ B.pts = []
  · refine seqIfT (fun P h => (show (if decide (way < 5) = true then P true else P (decide ((((sds B.pts).length : Nat) : Int) = 0))) from orT (by rw [len0]; simpa using h1) h)) ?_
    exact ⟨rfl, rfl, fun p hp hq => ⟨⟨by simp, by simp, by simp⟩, rfl, hQ (.free p.1 p.2) ⟨hp, hq⟩⟩⟩
  have wy : ¬ way < 5 := fun z => h1 (.inl z)
  have np : B.pts ≠ [] := fun z => h1 (.inr z)
  refine seqIfF (fun P h => (show (if decide (way < 5) = true then P true else P (decide ((((sds B.pts).length : Nat) : Int) = 0))) from orF wy (by rw [len0]; simpa using np) h)) (seqSkip ?_)
  refine seqDraw (ns := B.pts) rfl np lp fun p hp => ?_
  refine seqDraw (ns := B.pts) rfl np lp fun q hq => ?_
  walk_at "nrm"
  by_cases h6 : way = 6
  · refine seqIfT (fun P h => (show P (decide (way = 6)) by rw [decide_eq_true h6]; exact h)) ?_
    refine ⟨rfl, rfl, rfl, rfl, _, rfl, by decide, by decide, fun r r0 r1 => ⟨rfl, rfl, rfl, rfl, _, rfl, by decide, by decide, fun s s0 s1 => ⟨rfl, ?_⟩⟩⟩
    have b : ∀ i : Int, i.natAbs < 1000 → Bz 13400 i := fun i h => by
      have : Bz 10 i := by unfold Bz; omega
      exact this.mono (by decide)
    refine ⟨r - 6, 1 + s, rfl, by omega, b _ (by omega), b _ (by omega), rfl, ?_⟩
    have k := frac_le (q := ((r - 6 : Int) : Rat) / ((1 + s : Int) : Rat)) (a := r - 6) (b := 1 + s) (by omega) rfl
    exact hQ (.share p q _) ⟨hp, hq, by omega, by omega⟩
  refine seqIfF (fun P h => (show P (decide (way = 6)) by rw [decide_eq_false h6]; exact h)) (seqSkip ?_)
  by_cases h9 : way < 9
  · refine seqIfT (fun P h => (show P (decide (way < 9)) by rw [decide_eq_true h9]; exact h)) ?_
    have c3 : way = 5 ∨ way = 7 ∨ way = 8 := by omega
    rcases c3 with rfl | rfl | rfl
    · exact ⟨rfl, hQ (.middle p q) ⟨hp, hq⟩⟩
    · exact ⟨rfl, hQ (.next p q) ⟨hp, hq⟩⟩
    · exact ⟨rfl, hQ (.turn p q) ⟨hp, hq⟩⟩
  refine seqIfF (fun P h => (show P (decide (way < 9)) by rw [decide_eq_false h9]; exact h)) (seqSkip ?_)
  have orAnd : ∀ {c d : Prop} [Decidable c] [Decidable d] {e : Bool} {P : Bool → Prop}, P (decide c || (decide d && e)) → (if decide c = true then P true else if decide d = true then P e else P false) := fun {c d _ _ e P} h => by
    by_cases hc : c
    · rw [if_pos (decide_eq_true hc)]; rw [decide_eq_true hc] at h; exact h
    · rw [if_neg (by simpa using hc)]
      rw [decide_eq_false hc, Bool.false_or] at h
      by_cases hd : d
      · rw [if_pos (decide_eq_true hd)]; rw [decide_eq_true hd, Bool.true_and] at h; exact h
      · rw [if_neg (by simpa using hd)]; rw [decide_eq_false hd, Bool.false_and] at h; exact h
  by_cases h12 : way < 12 ∨ (way < 18 ∧ B.lns = [])
  · refine seqIfT (fun P h => (show (if decide (way < 12) = true then P true else if decide (way < 18) = true then P (decide ((((sds B.lns).length : Nat) : Int) = 0)) else P false) from orAnd (by rw [len0, show (decide (way < 12) || (decide (way < 18) && decide (B.lns = []))) = true by simpa using h12]; exact h))) ?_
    exact ⟨rfl, hQ (.line p q) ⟨hp, hq⟩⟩
  refine seqIfF (fun P h => (show (if decide (way < 12) = true then P true else if decide (way < 18) = true then P (decide ((((sds B.lns).length : Nat) : Int) = 0)) else P false) from orAnd (by rw [len0, show (decide (way < 12) || (decide (way < 18) && decide (B.lns = []))) = false by simp only [Bool.or_eq_false_iff, Bool.and_eq_false_imp, decide_eq_false_iff_not, decide_eq_true_eq]; exact ⟨fun z => h12 (.inl z), fun z1 z2 => h12 (.inr ⟨z1, z2⟩)⟩]; exact h))) (seqSkip ?_)
  have w12 : 12 ≤ way := by
    rcases Int.lt_or_le way 12 with z | z
    · exact absurd (.inl z) h12
    · exact z
  have nl : way < 18 → B.lns ≠ [] := fun z1 z2 => h12 (.inr ⟨z1, z2⟩)
  by_cases h16 : way = 16 ∨ way = 17
  · have nl' := nl (by omega)
    refine seqIfT (fun P h => (show (if decide (way = 16) = true then P true else P (decide (way = 17))) from orT (by simpa using h16) h)) ?_
    refine ⟨rfl, draw_of (ns := B.lns) rfl nl' ll fun l hl' => ?_⟩
    refine draw_of (ns := B.lns) rfl nl' ll fun m hm => ?_
    exact hQ (.meet l m) ⟨hl', hm⟩
  refine seqIfF (fun P h => (show (if decide (way = 16) = true then P true else P (decide (way = 17))) from orF (fun z => h16 (.inl z)) (decide_eq_false fun z => h16 (.inr z)) h)) (seqSkip ?_)
  by_cases hlt : way < 16
  · have nl' := nl (by omega)
    refine seqIfT (fun P h => (show P (decide (way < 16)) by rw [decide_eq_true hlt]; exact h)) ?_
    have c4 : way = 12 ∨ way = 13 ∨ way = 14 ∨ way = 15 := by omega
    rcases c4 with rfl | rfl | rfl | rfl
    · exact ⟨rfl, rfl, draw_of (ns := B.lns) rfl nl' ll fun l hl' => hQ (.along p l) ⟨hp, hl'⟩⟩
    · exact ⟨rfl, rfl, draw_of (ns := B.lns) rfl nl' ll fun l hl' => hQ (.upright p l) ⟨hp, hl'⟩⟩
    · exact ⟨rfl, rfl, draw_of (ns := B.lns) rfl nl' ll fun l hl' => hQ (.foot p l) ⟨hp, hl'⟩⟩
    · exact ⟨rfl, rfl, draw_of (ns := B.lns) rfl nl' ll fun l hl' => hQ (.mirror p l) ⟨hp, hl'⟩⟩
  refine seqIfF (fun P h => (show P (decide (way < 16)) by rw [decide_eq_false hlt]; exact h)) (seqSkip ?_)
  by_cases h20 : way < 20 ∨ (way < 22 ∧ B.cis = [])
  · refine seqIfT (fun P h => (show (if decide (way < 20) = true then P true else if decide (way < 22) = true then P (decide ((((sds B.cis).length : Nat) : Int) = 0)) else P false) from orAnd (by rw [len0, show (decide (way < 20) || (decide (way < 22) && decide (B.cis = []))) = true by simpa using h20]; exact h))) ?_
    exact ⟨rfl, hQ (.circle p q) ⟨hp, hq⟩⟩
  refine seqIfF (fun P h => (show (if decide (way < 20) = true then P true else if decide (way < 22) = true then P (decide ((((sds B.cis).length : Nat) : Int) = 0)) else P false) from orAnd (by rw [len0, show (decide (way < 20) || (decide (way < 22) && decide (B.cis = []))) = false by simp only [Bool.or_eq_false_iff, Bool.and_eq_false_imp, decide_eq_false_iff_not, decide_eq_true_eq]; exact ⟨fun z => h20 (.inl z), fun z1 z2 => h20 (.inr ⟨z1, z2⟩)⟩]; exact h))) (seqSkip ?_)
  have w20 : 20 ≤ way := by
    rcases Int.lt_or_le way 20 with z | z
    · exact absurd (.inl z) h20
    · exact z
  have nc : way < 22 → B.cis ≠ [] := fun z1 z2 => h20 (.inr ⟨z1, z2⟩)
  have andT : ∀ {c : Prop} [Decidable c] {e : Bool} {P : Bool → Prop}, P (decide c && e) → (if decide c = true then P e else P false) := fun {c _ e P} h => by
    by_cases hd : c
    · rw [if_pos (decide_eq_true hd)]; rw [decide_eq_true hd, Bool.true_and] at h; exact h
    · rw [if_neg (by simpa using hd)]; rw [decide_eq_false hd, Bool.false_and] at h; exact h
  have kk : ∀ r : Int, 0 ≤ r → r < 2 → (1 + r = 1 ∨ 1 + r = 2) := fun r _ _ => by omega
  by_cases hc1 : way = 20 ∧ B.lns ≠ []
  · have nc' := nc (by omega)
    refine seqIfT (fun P h => (show (if decide (way = 20) = true then P (decide ((0 : Int) < (((sds B.lns).length : Nat) : Int))) else P false) from andT (by rw [lenp, show (decide (way = 20) && !decide (B.lns = [])) = true by simpa using hc1]; exact h))) ?_
    refine seqDraw (ns := B.lns) rfl hc1.2 ll fun l hl' => ?_
    refine ⟨rfl, rfl, draw_of (ns := B.cis) rfl nc' lc fun c hc => ⟨rfl, rfl, _, rfl, by decide, by decide, fun r r0 r1 => ⟨rfl, hQ (.cut l c (1 + r)) ⟨.inl hl', hc, kk r r0 r1⟩⟩⟩⟩
  refine seqIfF (fun P h => (show (if decide (way = 20) = true then P (decide ((0 : Int) < (((sds B.lns).length : Nat) : Int))) else P false) from andT (by rw [lenp, show (decide (way = 20) && !decide (B.lns = [])) = false by simp only [Bool.and_eq_false_imp, decide_eq_true_eq, Bool.not_eq_false']; exact fun z => Classical.byContradiction fun y => hc1 ⟨z, y⟩]; exact h))) (seqSkip ?_)
  by_cases h22 : way < 22
  · have nc' := nc h22
    refine seqIfT (fun P h => (show P (decide (way < 22)) by rw [decide_eq_true h22]; exact h)) ?_
    refine seqDraw (ns := B.cis) rfl nc' lc fun l hl' => ?_
    refine ⟨rfl, rfl, draw_of (ns := B.cis) rfl nc' lc fun c hc => ⟨rfl, rfl, _, rfl, by decide, by decide, fun r r0 r1 => ⟨rfl, hQ (.cut l c (1 + r)) ⟨.inr hl', hc, kk r r0 r1⟩⟩⟩⟩
  refine seqIfF (fun P h => (show P (decide (way < 22)) by rw [decide_eq_false h22]; exact h)) (seqSkip ?_)
  refine seqDraw (ns := B.pts) rfl np lp fun r hr => ?_
  refine ⟨rfl, _, rfl, by decide, by decide, fun word x0 x1 => ?_⟩
  walk_at "nrm"
  by_cases hb : 2 < word ∧ B.lns ≠ []
  · refine seqIfT (fun P h => (show (if decide (2 < word) = true then P (decide ((0 : Int) < (((sds B.lns).length : Nat) : Int))) else P false) from andT (by rw [lenp, show (decide (2 < word) && !decide (B.lns = [])) = true by simpa using hb]; exact h))) ?_
    refine seqDraw (ns := B.lns) rfl hb.2 ll fun l hl' => ?_
    have c2 : word = 3 ∨ word = 4 := by omega
    rcases c2 with rfl | rfl
    · exact ⟨rfl, rfl, draw_of (ns := B.lns) rfl hb.2 ll fun m hm => hQ (.beside l m) ⟨hl', hm⟩⟩
    · exact ⟨rfl, rfl, draw_of (ns := B.lns) rfl hb.2 ll fun m hm => hQ (.square l m) ⟨hl', hm⟩⟩
  refine seqIfF (fun P h => (show (if decide (2 < word) = true then P (decide ((0 : Int) < (((sds B.lns).length : Nat) : Int))) else P false) from andT (by rw [lenp, show (decide (2 < word) && !decide (B.lns = [])) = false by simp only [Bool.and_eq_false_imp, decide_eq_true_eq, Bool.not_eq_false']; exact fun z => Classical.byContradiction fun y => hb ⟨z, y⟩]; exact h))) (seqSkip ?_)
  by_cases hi : word = 0 ∨ 2 < word
  · refine seqIfT (fun P h => (show (if decide (word = 0) = true then P true else P (decide (2 < word))) from orT (by simpa using hi) h)) ?_
    exact ⟨rfl, hQ (.inline p q r) ⟨hp, hq, hr⟩⟩
  refine seqIfF (fun P h => (show (if decide (word = 0) = true then P true else P (decide (2 < word))) from orF (fun z => hi (.inl z)) (decide_eq_false fun z => hi (.inr z)) h)) (seqSkip ?_)
  have c2 : word = 1 ∨ word = 2 := by omega
  rcases c2 with rfl | rfl
  · exact ⟨rfl, rfl, rfl, rfl, draw_of (ns := B.pts) rfl np lp fun s hs => hQ (.round p q r s) ⟨hp, hq, hr, hs⟩⟩
  · exact ⟨rfl, rfl, rfl, rfl, draw_of (ns := B.pts) rfl np lp fun s hs => hQ (.alike p q r s) ⟨hp, hq, hr, hs⟩⟩
end Mb
set_option Elab.async false
set_option linter.all false
set_option maxRecDepth 100000
set_option maxHeartbeats 1000000
namespace Mb
open PySem PySem.Spec PyProof.Rows L2
local macro_rules | `(tactic| walk_at "nrm") => `(tactic| try dsimp only [startD, startI, setAll, gSub, gAdd, gNeg, List.map, List.length, List.replicate, HAppend.hAppend, Append.append, List.append, List.set, Nat.reduceAdd, Nat.reduceSub])
section
variable {P : Program} {w : World} {K : PySem.W.Frag} {mg : Str → Option Value} {base : Heap}
theorem H_law_frac (F : Fx w K mg) : HasI P w K mg base 3 "_law_frac" 1 10 c_law_frac :=
  has_ofI F.d_law_frac sc_law_frac rfl (fun _ _ _ _ _ _ us hl => match us, hl with | [_], _ => rfl) mo_law_frac (fun n hn f cdv A outer s H E hr => der_law_frac (H_law_take F) (H_law_low F) n hn f cdv A outer s H E hr) rd_law_frac
theorem H_law_place (F : Fx w K mg) : HasI P w K mg base 4 "_law_place" 1 20 c_law_place :=
  has_ofI F.d_law_place sc_law_place rfl (fun _ _ _ _ _ _ us hl => match us, hl with | [_], _ => rfl) mo_law_place (fun n hn f cdv A outer s H E hr => der_law_place (H_law_frac F) n hn f cdv A outer s H E hr) rd_law_place
theorem H_law_making (F : Fx w K mg) : HasI P w K mg base 5 "_law_making" 2 39 c_law_making :=
  has_ofI F.d_law_making sc_law_making rfl (fun _ _ _ _ _ _ us hl => match us, hl with | [_, _], _ => rfl) mo_law_making (fun n hn f cdv A outer s H E hr => der_law_making (H_law_take F) (H_law_place F) F.m_len (H_law_low F) n hn f cdv A outer s H E hr) rd_law_making
theorem H_law_plain_place (F : Fx w K mg) : HasI P w K mg base 5 "_law_plain_place" 1 23 c_law_place :=
  has_ofI F.d_law_plain_place sc_law_plain_place rfl (fun _ _ _ _ _ _ us hl => match us, hl with | [_], _ => rfl) mo_law_place (fun n hn f cdv A outer s H E hr => der_law_plain_place (H_law_take F) (H_law_place F) n hn f cdv A outer s H E hr) rd_law_plain_place
/-- a pool that is new -/
def c_law_pool : Ct := fun ds Q => ∃ (ns : List Int) (i : Int), ds = [.list (ns.map PyData.int), .int i] ∧ 0 ≤ i ∧ i ≤ 90 ∧ ∀ x y z : Int, 0 ≤ x → 0 ≤ y → y ≤ 90000 → Q (.list [.int x, .int y, .int z])
theorem mo_law_pool : MoC c_law_pool := fun ds P P' m ⟨ns, i, h1, h2, h3, h4⟩ => ⟨ns, i, h1, h2, h3, fun x y z a b c => m _ (h4 x y z a b c)⟩
theorem atI_int {ns : List Int} {k : Int} (h0 : 0 ≤ k) (h1 : k < ns.length) : ∃ c, atI (ns.map PyData.int) k = some (.int c) := by
  have hr : k.toNat < ns.length := by omega
  refine ⟨ns[k.toNat], ?_⟩
  unfold atI ixN
  rw [if_pos h0, if_pos (by rw [List.length_map]; exact h1)]
  show (ns.map PyData.int)[k.toNat]? = _
  rw [List.getElem?_map, List.getElem?_eq_getElem hr]
  rfl
theorem rd_law_pool (ds : List PyData) (Q : PyData → Prop) (hl : ds.length = 2) (h : c_law_pool ds Q) : t_law_pool { nx := fun _ => Q .none, rt := Q } (startD 4 ds) := by
  obtain ⟨ns, i, rfl, i0, i1, hQ⟩ := h
  have hlen : ((ns.map PyData.int).length : Int) = ns.length := by rw [List.length_map]
  unfold t_law_pool
  refine seqSetV (d := .int 0) (fun P h => h) ?_
  -- the cell
  have cell : ∀ (u : TDS) (E : DE), (∀ c : Int, u E [some (.list (ns.map PyData.int)), some (.int i), some (.int c), none]) → (dSeq (dIf (dCmpT (cInt fun i j => decide (j < i)) (dUn gLen (dVar 0)) (dC (.int 0))) (dSet 2 (dOp gIx (dVar 0) (dOp gMod (dVar 1) (dUn gLen (dVar 0))))) dSkip) u) E [some (.list (ns.map PyData.int)), some (.int i), some (.int 0), none] := fun u E h => by
    by_cases h0 : 0 < ns.length
    · refine seqIfT (fun P q => (show P (decide ((0 : Int) < ((ns.map PyData.int).length : Int))) by rw [hlen, decide_eq_true (by omega)]; exact q)) ?_
      have b := fmod_lt (a := i) (b := (ns.length : Int)) (by omega)
      obtain ⟨c, hc⟩ := atI_int (ns := ns) b.1 b.2
      refine ⟨by rw [hlen]; omega, ?_⟩
      show optK (atI (ns.map PyData.int) (i.fmod ((ns.map PyData.int).length : Int))) _
      rw [hlen, hc]
      exact h c
    · refine seqIfF (fun P q => (show P (decide ((0 : Int) < ((ns.map PyData.int).length : Int))) by rw [hlen, decide_eq_false (by omega)]; exact q)) (seqSkip ?_)
      exact h 0
  refine cell _ _ fun c => ?_
  refine seqSetV (d := .int 0) (fun P h => h) ?_
  walk_at "nrm"
  have w1 : CMulW 1000 i := by
    have b1 : Bz 10 1000 := by unfold Bz; decide
    have b2 : Bz 10 i := by unfold Bz; omega
    exact b1.mulW b2 (by decide)
  have p18 : (10 : Int) ^ (18 : Int).toNat = 1000000000000000000 := by decide +kernel
  by_cases h : (1000000000000000000 : Int) ≤ c ∧ i < ns.length
  · refine seqIfT (fun P q => ⟨⟨by decide, by decide, by decide +kernel⟩, ?_⟩) ?_
    · show if decide ((10 : Int) ^ (18 : Int).toNat ≤ c) = true then P (decide (i < ((ns.map PyData.int).length : Int))) else P false
      rw [p18, if_pos (decide_eq_true h.1), hlen, decide_eq_true h.2]
      exact q
    exact ⟨w1, hQ c (1000 * i) c (by omega) (by omega) (by omega)⟩
  · refine seqIfF (fun P q => ⟨⟨by decide, by decide, by decide +kernel⟩, ?_⟩) (seqSkip ?_)
    · show if decide ((10 : Int) ^ (18 : Int).toNat ≤ c) = true then P (decide (i < ((ns.map PyData.int).length : Int))) else P false
      rw [p18, hlen]
      by_cases h1 : (1000000000000000000 : Int) ≤ c
      · rw [if_pos (decide_eq_true h1), decide_eq_false (fun z => h ⟨h1, z⟩)]; exact q
      · rw [if_neg (by simpa using h1)]; exact q
    exact ⟨w1, hQ 0 (1000 * i) c (by omega) (by omega) (by omega)⟩
theorem H_law_pool (F : Fx w K mg) : Has P w K mg base 1 "_law_pool" 2 c_law_pool :=
  has_of F.d_law_pool sc_law_pool rfl (fun _ _ _ _ _ _ us hl => match us, hl with | [_, _], _ => rfl) mo_law_pool (fun f cdv A outer s H E hr => der_law_pool F.m_len f cdv A outer s H E hr) rd_law_pool
end
end Mb
set_option Elab.async false
set_option linter.all false
set_option maxRecDepth 100000
set_option maxHeartbeats 1000000
namespace Mb
open PySem PySem.Spec PyProof.Rows L2
/-! ### data of tuples alone -/
mutual
/-- tuples, texts, ints, bools, none -/
def tupO : PyData → Bool
  | .list _ => false
  | .tuple ds => tupOs ds
  | .dict _ => false
  | _ => true
def tupOs : List PyData → Bool
  | [] => true
  | d :: ds => tupO d && tupOs ds
end
/-- every tuple stays -/
def SameT (K : PySem.W.Frag) (H H' : Hp) : Prop := ∀ a xs, SqT K H a xs → SqT K H' a xs
section
variable {K : PySem.W.Frag} {H H' H2 : Hp}
theorem SameT.refl : SameT K H H := fun _ _ h => h
theorem SameT.trans (a : SameT K H H') (b : SameT K H' H2) : SameT K H H2 := fun x xs h => b x xs (a x xs h)
theorem SameT.of (s : Same H H') : SameT K H H' := fun _ _ h => Same.seqT s h
/-- a change of what is no tuple -/
theorem SameT.updK {D : Addr} {o : HO} {kvs : List (Key × V)} (h : H D = some (.dK kvs)) : SameT K H (upd H D o) := fun a xs q => by
  rcases q with (q | ⟨p, q⟩) | q
  · exact .inl (.inl (by rw [upd_ne (by intro z; subst z; rw [h] at q; cases q)]; exact q))
  · exact .inl (.inr ⟨p, by rw [upd_ne (by intro z; subst z; rw [h] at q; cases q)]; exact q⟩)
  · exact .inr q
theorem SameT.updL {D : Addr} {o : HO} {zs : List V} (h : H D = some (.lst zs)) : SameT K H (upd H D o) := fun a xs q => by
  rcases q with (q | ⟨p, q⟩) | q
  · exact .inl (.inl (by rw [upd_ne (by intro z; subst z; rw [h] at q; cases q)]; exact q))
  · exact .inl (.inr ⟨p, by rw [upd_ne (by intro z; subst z; rw [h] at q; cases q)]; exact q⟩)
  · exact .inr q
mutual
theorem Rp.tups (s : SameT K H H') : ∀ {v : V} {d : PyData}, Rp K H v d → tupO d = true → Rp K H' v d
  | _, _, .non, _ => .non
  | _, _, .bl b, _ => .bl b
  | _, _, .int i, _ => .int i
  | _, _, .str x, _ => .str x
  | _, _, .lst h t, c => by simp [tupO] at c
  | _, _, .tup h t, c => .tup (s _ _ h) (RpAll.tups s t (by simpa [tupO] using c))
  | _, _, .dic h t, c => by simp [tupO] at c
theorem RpAll.tups (s : SameT K H H') : ∀ {vs : List V} {ds : List PyData}, RpAll K H vs ds → tupOs ds = true → RpAll K H' vs ds
  | _, _, .nil, _ => .nil
  | _, _, .cons h t, c => by
    simp only [tupOs, Bool.and_eq_true] at c
    exact .cons (Rp.tups s h c.1) (RpAll.tups s t c.2)
end
/-- a dict's pairs, by texts and values of tuples alone -/
structure KvT (K : PySem.W.Frag) (H : Hp) (kvs : List (Key × V)) (l : List (Str × PyData)) : Prop where
  rp : RpKvs K H kvs (l.map fun x => (.str x.1, x.2))
  t : ∀ x ∈ l, tupO x.2 = true
theorem RpKvs.tups (s : SameT K H H') : ∀ {kvs : List (Key × V)} {l : List (Str × PyData)}, RpKvs K H kvs (l.map fun x => (.str x.1, x.2)) → (∀ x ∈ l, tupO x.2 = true) → RpKvs K H' kvs (l.map fun x => (.str x.1, x.2))
  | [], [], _, _ => .nil
  | [], _ :: _, h, _ => by cases h
  | _ :: _, [], h, _ => by cases h
  | _ :: _, x :: l, h, c => by
    cases h with
    | cons a t => exact .cons (Rp.tups s a (c x (List.mem_cons_self ..))) (RpKvs.tups s t fun y hy => c y (List.mem_cons_of_mem _ hy))
theorem KvT.mono {kvs : List (Key × V)} {l : List (Str × PyData)} (h : KvT K H kvs l) (s : SameT K H H') : KvT K H' kvs l := ⟨RpKvs.tups s h.rp h.t, h.t⟩
theorem any_new {kvs : List (Key × V)} {k : Str} : ∀ {l : List (PyData × PyData)}, RpKvs K H kvs l → dGetK l k = none → (kvs.any fun kv => decide (kv.1 = (Sum.inr k : Key))) = false := by
  induction kvs with
  | nil => intro l h e; rfl
  | cons p kvs ih =>
    intro l h e
    cases h with
    | @cons x u _ d r a t =>
      have hx : x ≠ k := fun z => by
        subst z
        simp [dGetK] at e
      have e2 : dGetK r k = none := by simpa [dGetK, hx] using e
      rw [List.any_cons, ih t e2, Bool.or_false]
      exact decide_eq_false fun z => hx (Sum.inr.inj z)
/-- a new key at the end -/
theorem putK_new {kvs : List (Key × V)} {k : Str} {v : V} {l : List (PyData × PyData)} (h : RpKvs K H kvs l) (e : dGetK l k = none) : putK kvs (.inr k) v = kvs ++ [(.inr k, v)] := by
  unfold putK
  rw [any_new h e, if_neg (by decide)]
theorem RpKvs.snoc {kvs : List (Key × V)} {l : List (PyData × PyData)} {k : Str} {v : V} {d : PyData} (h : RpKvs K H kvs l) (r : Rp K H v d) : RpKvs K H (kvs ++ [(.inr k, v)]) (l ++ [(.str k, d)]) := by
  induction kvs generalizing l with
  | nil => cases h; exact .cons r .nil
  | cons p kvs ih => cases h with | cons a t => exact .cons a (ih t)
theorem look_none {l : List (Str × PyData)} {k : Str} (h : look l k = none) : dGetK (l.map fun x => (.str x.1, x.2)) k = none := by
  have := look_kv (f := fun d : PyData => d) k l
  rw [h] at this
  exact this
theorem KvT.put {kvs : List (Key × V)} {l : List (Str × PyData)} {k : Str} {v : V} {d : PyData} (h : KvT K H kvs l) (n : look l k = none) (r : Rp K H v d) (c : tupO d = true) : KvT K H (putK kvs (.inr k) v) (l ++ [(k, d)]) := by
  rw [putK_new h.rp (look_none n)]
  refine ⟨?_, fun x hx => ?_⟩
  · rw [List.map_append]
    exact h.rp.snoc r
  · rcases List.mem_append.mp hx with q | q
    · exact h.t x q
    · rw [List.mem_singleton] at q; subst q; exact c
theorem KvT.length {kvs : List (Key × V)} : ∀ {l : List (Str × PyData)}, RpKvs K H kvs (l.map fun x => (.str x.1, x.2)) → kvs.length = l.length := by
  induction kvs with
  | nil => intro l h; cases l with
    | nil => rfl
    | cons _ _ => cases h
  | cons p kvs ih => intro l h; cases l with
    | nil => cases h
    | cons x l => cases h with | cons a t => rw [List.length_cons, List.length_cons, ih t]
end
end Mb
set_option Elab.async false
set_option linter.all false
set_option maxRecDepth 100000
set_option maxHeartbeats 1000000
namespace Mb
open PySem PySem.Spec PyProof.Rows L2
/-! ### a row -/
abbrev Rw := List (Str × Mk)
def rowD (x : Str × Mk) : PyData := .tuple [.str x.1, mkD x.2]
theorem tupOs_append : ∀ (a b : List PyData), tupOs (a ++ b) = (tupOs a && tupOs b)
  | [], b => rfl
  | x :: a, b => by
    show (tupO x && tupOs (a ++ b)) = (tupO x && tupOs a && tupOs b)
    rw [tupOs_append a b, Bool.and_assoc]
theorem tupOs_sds : ∀ ns : List Str, tupOs (sds ns) = true
  | [] => rfl
  | n :: ns => by
    show (true && tupOs (sds ns)) = true
    rw [tupOs_sds ns]
    rfl
theorem tupO_mk (m : Mk) : tupO (mkD m) = true := by
  show (true && tupOs (sds m.gr ++ m.xs)) = true
  rw [tupOs_append, tupOs_sds]
  cases m <;> rfl
theorem tupO_tl (t : Tl) : tupO (tlD t) = true := by cases t <;> rfl
theorem tupO_row (x : Str × Mk) : tupO (rowD x) = true := by
  show (true && (tupO (mkD x.2) && true)) = true
  rw [tupO_mk]
  rfl
theorem look_append {α : Type} {k : Str} : ∀ (l r : List (Str × α)), look (l ++ r) k = (look l k).or (look r k)
  | [], r => by simp [look]
  | (x, a) :: l, r => by
    show (if x = k then some a else look (l ++ r) k) = (if x = k then some a else look l k).or (look r k)
    rw [look_append l r]
    split <;> simp
/-- the ranks of the first i of a row -/
def nameAt (R : Rw) (j : Nat) : Str := ((R[j]?).map Prod.fst).getD ""
def ranks (R : Rw) (i : Nat) : List (Str × Int) := (List.range i).map fun (j : Nat) => (nameAt R j, (j : Int))
/-- each thing's telling follows from those ahead -/
structure Step (R : Rw) (A : At) (i : Nat) (n : Str) (m : Mk) (t : Tl) : Prop where
  row : R[i]? = some (n, m)
  told : A[i]? = some (n, t)
  new : look (A.take i) n = none
  newR : look (ranks R i) n = none
  gr : ∀ x ∈ m.gr, ∃ t, look (A.take i) x = some t
  gone : ∃ g : Str → Int, (∀ x ∈ goneL (A.take i) m.gr, look (ranks R i) x.1 = some (g x.1)) ∧ Tells (A.take i) g n m t
structure Steps (R : Rw) (A : At) : Prop where
  len : A.length = R.length
  small : R.length ≤ 16
  all : ∀ i, i < R.length → ∃ n m t, Step R A i n m t
theorem ranks_succ (R : Rw) (i : Nat) : ranks R (i + 1) = ranks R i ++ [(nameAt R i, (i : Int))] := by
  unfold ranks
  rw [List.range_succ, List.map_append]
  rfl
/-- a def by hand, its promise over data -/
theorem has_raw {P : Program} {w : World} {K : PySem.W.Frag} {mg : Str → Option Value} {base : Heap} {x : Str} {st : Stmt} {N ps : List Str} {k n : Nat} {F : Ct} (D : DefAt K mg x st) (S : FnScope N ps (defScope st)) (hn : ps.length = n)
    (hbind : ∀ (kV doc pm : Value) (an : Option Addr) (cdv ct : Value) (us : List Value), us.length = ps.length → bindArgs (PySem.W.fnOf x x (defArgs st) (defBody st) (defScope st) .none kV doc pm an cdv ct) ⟨us, []⟩ = pure (ps.zip us)) (mo : MoC F)
    (hb : ∀ (f : Addr) (cdv : Value) (A : Around) (outer : List Env) (s : Shared) (H : Hp) (E : XK), Room k (A.deeper (envOfC x (defScope st) s.heap.objs.size f cdv)) → ∃ t, PSs (bodyX P w K mg base N x st f cdv A outer s H E) (defBody st) t ∧
      ∀ (H : Hp) (vs : List V) (ds : List PyData) (Q : VK), RpAll K H vs ds → ds.length = n → F ds (wV K H Q) → t { nx := fun _ H' => Q .non H', rt := Q } (L2.start N vs) H) : Has P w K mg base (k + 1) x n F := by
  obtain ⟨f, fd, h1, h2, Fn⟩ := D.ex
  refine ⟨⟨f, fd, ps, h1, h2, Fn.binds hbind, ?_⟩, mo⟩
  refine Fn.ok S (fun vs H Q E h => ?_) (fun cdv A outer s H vs Q E hroom h => ?_)
  · obtain ⟨ds, r, l, _⟩ := h
    rw [r.length, l, hn]
  · obtain ⟨ds, r, l, q⟩ := h
    obtain ⟨t, ht, hq⟩ := hb f cdv A outer s H E hroom
    exact ⟨t, ht, hq H vs ds Q r l q⟩
/-- the tellings of a row -/
def c_tellings_of : Ct := fun ds Q => ∃ R A, ds = [.list (R.map rowD)] ∧ Steps R A ∧ Q (atD A)
theorem mo_tellings_of : MoC c_tellings_of := fun ds P P' m ⟨R, A, h1, h2, h3⟩ => ⟨R, A, h1, h2, m _ h3⟩
/-- what holds between two turns of tellings_of: the row's list, the two dicts -/
structure TInv (K : PySem.W.Frag) (H0 : Hp) (R : Rw) (A : At) (a D1 D2 : Addr) (xs : List V) (i : Nat) (σ : L2.St) (H : Hp) : Prop where
  same : Same H0 H
  row : H a = some (.lst xs)
  rows : RpAll K H xs (R.map rowD)
  d1 : ∃ kvs, H D1 = some (.dK kvs) ∧ KvT K H kvs ((A.take i).map fun x => (x.1, tlD x.2))
  d2 : ∃ kvs, H D2 = some (.dK kvs) ∧ KvT K H kvs ((ranks R i).map fun x => (x.1, PyData.int x.2))
  n1 : H0 D1 = none
  n2 : H0 D2 = none
  n3 : D1 ≠ D2
  env : ∃ k n m, σ = [some (.ref a), some (.ref D1), some (.ref D2), k, n, m]
end Mb
set_option Elab.async false
set_option linter.all false
set_option maxRecDepth 100000
set_option maxHeartbeats 4000000
namespace Mb
open PySem PySem.Spec PyProof.Rows L2
/-! ### the defs over a row: slots -/
abbrev N_tellings_of : List Str := [("row" : Str), ("at" : Str), ("ranks" : Str), ("k" : Str), ("name" : Str), ("making" : Str)]
abbrev P_tellings_of : List Str := [("row" : Str)]
theorem sc_tellings_of : FnScope N_tellings_of P_tellings_of (defScope s_tellings_of) := ⟨rfl, rfl, rfl, by decide +kernel, rfl, by decide +kernel, by decide +kernel⟩
abbrev N_anew : List Str := [("row" : Str), ("sorts" : Str), ("heavy" : Str), ("at" : Str), ("name" : Str), ("making" : Str)]
abbrev P_anew : List Str := [("row" : Str)]
theorem sc_anew : FnScope N_anew P_anew (defScope s_anew) := ⟨rfl, rfl, rfl, by decide +kernel, rfl, by decide +kernel, by decide +kernel⟩
abbrev N_law_holds : List Str := [("_law_sheet" : Str), ("_law_at" : Str), ("_law_ranks" : Str), ("_law_k" : Str), ("_law_gone" : Str), ("_law_name" : Str), ("_law_making_here" : Str), ("_law_told" : Str), ("_law_due" : Str), ("_law_one" : Str), ("_law_word" : Str)]
abbrev P_law_holds : List Str := [("_law_sheet" : Str)]
theorem sc_law_holds : FnScope N_law_holds P_law_holds (defScope s_law_holds) := ⟨rfl, rfl, rfl, by decide +kernel, rfl, by decide +kernel, by decide +kernel⟩
abbrev N_law_plain_row : List Str := [("_law_script" : Str), ("_law_many" : Str), ("_law_row" : Str), ("_law_by" : Str), ("_law_sorts" : Str), ("_law_heavy" : Str), ("_law_head" : Str), ("_law_k" : Str), ("_law_pool_here" : Str), ("_law_name" : Str), ("_law_making_here" : Str)]
abbrev P_law_plain_row : List Str := [("_law_script" : Str), ("_law_many" : Str)]
theorem sc_law_plain_row : FnScope N_law_plain_row P_law_plain_row (defScope s_law_plain_row) := ⟨rfl, rfl, rfl, by decide +kernel, rfl, by decide +kernel, by decide +kernel⟩
abbrev N_law : List Str := [("_law_script" : Str), ("_law_row" : Str), ("_law_handed" : Str), ("_law_found" : Str), ("_law_k" : Str)]
abbrev P_law : List Str := [("_law_script" : Str)]
theorem sc_law : FnScope N_law P_law (defScope s_law) := ⟨rfl, rfl, rfl, by decide +kernel, rfl, by decide +kernel, by decide +kernel⟩

theorem look_map {α β : Type} (f : α → β) (k : Str) : ∀ l : List (Str × α), look (l.map fun x => (x.1, f x.2)) k = (look l k).map f
  | [] => rfl
  | (x, a) :: r => by
    show (if x = k then some (f a) else look (r.map fun x => (x.1, f x.2)) k) = (if x = k then some a else look r k).map f
    rw [look_map f k r]
    split <;> rfl
section
variable {P : Program} {w : World} {K : PySem.W.Frag} {mg : Str → Option Value} {base : Heap}
theorem raw_tellings (F : Fx w K mg) (TP : NTab w K mg "PLACES" nPLACES) (TL : NTab w K mg "LINES" nLINES) (f : Addr) (cdv : Value) (A : Around) (outer : List Env) (s : Shared) (H : Hp) (E : XK) (hr : Room 8 (A.deeper (envOfC "tellings_of" (defScope s_tellings_of) s.heap.objs.size f cdv))) : ∃ t, PSs (bodyX P w K mg base N_tellings_of "tellings_of" s_tellings_of f cdv A outer s H E) (defBody s_tellings_of) t ∧
      ∀ (H : Hp) (vs : List V) (ds : List PyData) (Q : VK), RpAll K H vs ds → ds.length = 1 → c_tellings_of ds (wV K H Q) → t { nx := fun _ H' => Q .non H', rt := Q } (L2.start N_tellings_of vs) H := by
  refine ⟨_, pss_cons (ps_set (i := 1) sc_tellings_of.nd rfl (Or.inl rfl) pe_dnewK)
    (pss_cons (ps_set (i := 2) sc_tellings_of.nd rfl (Or.inl rfl) pe_dnewK)
    (pss_cons (ps_for PassesOwn.never rfl (pi_enum rfl F.m_enumerate (pa_cons (pe_var (i := 0) rfl (Or.inl rfl)) pa_nil))
      (pg_tup rfl (pgs_cons (pg_name (i := 3) sc_tellings_of.nd rfl (Or.inl rfl)) (pgs_cons (pg_tup rfl (pgs_cons (pg_name (i := 4) sc_tellings_of.nd rfl (Or.inl rfl)) (pgs_cons (pg_name (i := 5) sc_tellings_of.nd rfl (Or.inl rfl)) pgs_nil))) pgs_nil)))
      (pss_cons (ps_dput (hu_of hr) (pe_var (i := 1) rfl (Or.inl rfl)) (pe_var (i := 4) rfl (Or.inl rfl)) (PD.run (pd_call (H_telling_of F TP TL) (hr.mono (by decide)) rfl (pda_cons (dv 4) (pda_cons (dv 5) (pda_cons (dv 1) (pda_cons (dv 2) pda_nil)))))) rfl)
        (pss_one (ps_dput (hu_of hr) (pe_var (i := 2) rfl (Or.inl rfl)) (pe_var (i := 4) rfl (Or.inl rfl)) (pe_var (i := 3) rfl (Or.inl rfl)) rfl))))
    (pss_one (ps_ret (pe_var (i := 1) rfl (Or.inl rfl)))))), ?_⟩
  intro H vs ds Q r l ⟨R, A, e, st, hQ⟩
  subst e
  cases r with
  | cons r1 t =>
  cases t
  obtain ⟨a, xs, rfl, ha, rx⟩ := r1.lst_inv
  intro D1 h1
  intro D2 h2
  have ne12 : D1 ≠ D2 := fun z => by subst z; rw [upd_same] at h2; cases h2
  have h2' : H D2 = none := by rw [upd_ne (Ne.symm ne12)] at h2; exact h2
  have s1 : Same H (upd H D1 (.dK [])) := same_upd h1
  have s2 : Same (upd H D1 (.dK [])) (upd (upd H D1 (.dK [])) D2 (.dK [])) := same_upd h2
  have s12 := s1.trans s2
  have hlen : xs.length = R.length := by rw [rx.length, List.length_map]
  refine ⟨_, rfl, a, xs, rfl, SqL.of (s12 _ _ ha), ?_⟩
  refine for_it walk_enum (TInv K H R A a D1 D2 xs) ?_ (fun i σ H' _ p => SqL.of p.row) ?_ ?_
  · exact ⟨s12, s12 _ _ ha, rx.mono s12, ⟨[], by rw [upd_ne ne12, upd_same], .nil, by simp⟩, ⟨[], upd_same, .nil, by simp [ranks]⟩, h1, h2', ne12, none, none, none, rfl⟩
  · rintro i x σ H1 H2 hi p ⟨T, xk, xv, rfl, hT, rfl, hk, hv⟩
    cases hk
    obtain ⟨n, m, t, S⟩ := st.all i (by omega)
    have sT := same_upd (o := HO.tup [.int (i : Nat), xv]) hT
    obtain ⟨d, hd, rd⟩ := p.rows.get' hv
    rw [List.getElem?_map, S.row] at hd
    cases hd
    obtain ⟨b, ys, rfl, sb, rb⟩ := rd.tup_inv
    obtain ⟨k0, n0, m0, rfl⟩ := p.env
    cases rb with
    | cons rn rb =>
    cases rb with
    | cons rm rb =>
    cases rb
    have en := rn.str_inv
    subst en
    rename_i vm
    refine ⟨T, _, rfl, SqT.of upd_same, rfl, _, _, rfl, _, _, rfl, ⟨b, _, rfl, Same.seqT sT sb, rfl, _, _, rfl, _, _, rfl, rfl, rfl, ?_⟩⟩
    obtain ⟨g, hg, hT2⟩ := S.gone
    obtain ⟨kv1, hd1, kt1⟩ := p.d1
    obtain ⟨kv2, hd2, kt2⟩ := p.d2
    have rd1 : Rp K (upd H1 T (.tup [.int (i : Nat), .ref b])) (.ref D1) (atD (A.take i)) := by
      have k := (kt1.mono (SameT.of sT)).rp
      rw [List.map_map] at k
      exact .dic (sT _ _ hd1) k
    have rd2 : Rp K (upd H1 T (.tup [.int (i : Nat), .ref b])) (.ref D2) (rankD (ranks R i)) := by
      have k := (kt2.mono (SameT.of sT)).rp
      rw [List.map_map] at k
      exact .dic (sT _ _ hd2) k
    refine ⟨[none, some (atD (A.take i)), some (rankD (ranks R i)), none, some (.str n), some (mkD m)], env_none (env_some rd1 (env_some rd2 (env_none (env_some (.str n) (env_some (rm.mono sT) env_nil))))), n, m, _, _, g, t, rfl, S.gr, hg, hT2, fun v H3 s3 r3 => ?_⟩
    have s13 := sT.trans s3
    have hd1' := s13 _ _ hd1
    have hd2' := s13 _ _ hd2
    have l1 : kv1.length < sizeLine := by
      rw [KvT.length kt1.rp, List.length_map, List.length_take]
      have := st.small
      exact Nat.lt_of_le_of_lt (show min i A.length ≤ 1000 by omega) (small1000 (Nat.le_refl _))
    have l2 : kv2.length < sizeLine := by
      rw [KvT.length kt2.rp, List.length_map]
      have := st.small
      exact Nat.lt_of_le_of_lt (show (ranks R i).length ≤ 1000 by simp [ranks]; omega) (small1000 (Nat.le_refl _))
    refine ⟨_, rfl, _, rfl, D1, _, rfl, DPut.k (k := .inr n) hd1' l1, ?_⟩
    have t34 : SameT K H3 (upd H3 D1 (.dK (putK kv1 (.inr n) v))) := SameT.updK hd1'
    have hd2'' : upd H3 D1 (.dK (putK kv1 (.inr n) v)) D2 = some (.dK kv2) := by rw [upd_ne (Ne.symm p.n3)]; exact hd2'
    refine ⟨_, rfl, _, rfl, _, rfl, D2, _, rfl, DPut.k (k := .inr n) hd2'' l2, ?_⟩
    have t45 : SameT K (upd H3 D1 (.dK (putK kv1 (.inr n) v))) (upd (upd H3 D1 (.dK (putK kv1 (.inr n) v))) D2 (.dK (putK kv2 (.inr n) (.int (i : Nat))))) := SameT.updK hd2''
    have t35 := t34.trans t45
    have t15 := (SameT.of s13).trans t35
    have a1 : a ≠ D1 := fun z => by have := p.row; rw [z, hd1] at this; cases this
    have a2 : a ≠ D2 := fun z => by have := p.row; rw [z, hd2] at this; cases this
    have ti : A.take (i + 1) = A.take i ++ [(n, t)] := by
      rw [List.take_add_one, S.told]
      rfl
    have ni : nameAt R i = n := by unfold nameAt; rw [S.row]; rfl
    have hrows : tupOs (R.map rowD) = true := by
      have : ∀ R : Rw, tupOs (R.map rowD) = true := fun R => by
        induction R with
        | nil => rfl
        | cons x R ih =>
          show (tupO (rowD x) && tupOs (R.map rowD)) = true
          rw [tupO_row, ih]
          rfl
      exact this R
    refine ⟨fun c o hc => ?_, ?_, p.rows.tups t15 hrows, ⟨_, by rw [upd_ne p.n3]; exact upd_same, ?_⟩, ⟨_, upd_same, ?_⟩, p.n1, p.n2, p.n3, _, _, _, rfl⟩
    · have c1 : c ≠ D1 := fun z => by rw [z, p.n1] at hc; cases hc
      have c2 : c ≠ D2 := fun z => by rw [z, p.n2] at hc; cases hc
      rw [upd_ne c2, upd_ne c1]
      exact s13 _ _ (p.same _ _ hc)
    · rw [upd_ne a2, upd_ne a1]
      exact s13 _ _ p.row
    · rw [ti, List.map_append]
      refine KvT.mono (KvT.put (kt1.mono (SameT.of s13)) ?_ r3 (tupO_tl t)) t35
      rw [look_map, S.new]
      rfl
    · rw [ranks_succ, List.map_append, ni]
      refine KvT.mono (KvT.put (kt2.mono (SameT.of s13)) ?_ (.int _) rfl) t35
      rw [look_map, S.newR]
      rfl
  · intro σ H' p
    obtain ⟨k0, n0, m0, rfl⟩ := p.env
    obtain ⟨kvs, hd, kt⟩ := p.d1
    refine ⟨.ref D1, rfl, hQ _ H' p.same ?_⟩
    have e : A.take xs.length = A := List.take_of_length_le (by rw [st.len, hlen]; exact Nat.le_refl _)
    have k := kt.rp
    rw [e, List.map_map] at k
    exact .dic hd k
theorem H_tellings_of (F : Fx w K mg) (TP : NTab w K mg "PLACES" nPLACES) (TL : NTab w K mg "LINES" nLINES) : Has P w K mg base 9 "tellings_of" 1 c_tellings_of :=
  has_raw F.d_tellings_of sc_tellings_of rfl (fun _ _ _ _ _ _ us hl => match us, hl with | [_], _ => rfl) mo_tellings_of (fun f cdv A outer s H E hr => raw_tellings F TP TL f cdv A outer s H E hr)
end
end Mb
set_option Elab.async false
set_option linter.all false
set_option maxRecDepth 100000
set_option maxHeartbeats 1000000
namespace Mb
open PySem PySem.Spec PyProof.Rows L2
/-! ### rows that are drawn: each thing with its weight -/
structure En where
  n : Str
  m : Mk
  w : Int
abbrev Ew := List En
def En.r (e : En) : Str × Mk := (e.n, e.m)
def sortsE (E : Ew) : List (Str × Str) := E.map fun e => (e.n, e.m.sort)
def heavyE (E : Ew) : List (Str × Int) := E.map fun e => (e.n, e.w)
/-- a thing that may stand behind those of E -/
structure Fine (E : Ew) (e : En) : Prop where
  name : e.n = nm E.length
  small : E.length < 16
  fits : Fits2 (sortsE E) e.m.gr e.m.asked
  far : NotFar e.m
  share : ∀ p q t, e.m = .share p q t → t.num.natAbs ≤ 7 ∧ t.den ≤ 7
  cut : ∀ u c k, e.m = .cut u c k → k = 1 ∨ k = 2
  wgt : ∃ c h, Wgd (sortsE E) (heavyE E) e.m c h ∧ wgtOf e.m c h = e.w ∧ ∀ x ∈ e.m.gr, 1 ≤ h x
  pos : 1 ≤ e.w
  le : e.w ≤ 40
/-- each behind those ahead -/
inductive VR : Ew → Prop
  | nil : VR []
  | snoc {E : Ew} {e : En} : VR E → Fine E e → VR (E ++ [e])
theorem VR.len : ∀ {E : Ew}, VR E → E.length ≤ 16
  | _, .nil => by decide
  | _, .snoc h f => by
    have := f.small
    simp
    omega
/-- a telling of a sort's shape -/
def Shp (s : Str) (t : Tl) : Prop := (s = "point" ∧ ∃ p, t = .pt p) ∨ (s = "line" ∧ ∃ l, t = .line l) ∨ (s = "circle" ∧ ∃ C, t = .circle C) ∨ (s = "claim" ∧ (t = .kept ∨ t = .broken))
def WordOk (w : Str) : Prop := w ≠ "" ∧ PyData.canLay0 (.str w) = true
def Ok1 (k : Nat) (e : En) (t : Tl) : Prop := (∃ j w, j < k ∧ t = .gone (nm j) w ∧ WordOk w) ∨ (Shp e.m.sort t ∧ WT e.w.toNat t)
def rankE (E : Ew) : List (Str × Int) := (List.range E.length).map fun (j : Nat) => (((E[j]?).map En.n).getD "", (j : Int))
/-- each telling follows from those ahead -/
inductive TOk : Ew → At → Prop
  | nil : TOk [] []
  | snoc {E : Ew} {A : At} {e : En} {t : Tl} {g : Str → Int} : TOk E A → Fine E e → (∀ x ∈ e.m.gr, ∃ t, look A x = some t) → (∀ x ∈ goneL A e.m.gr, look (rankE E) x.1 = some (g x.1)) → Tells A g e.n e.m t → Ok1 (E.length + 1) e t → TOk (E ++ [e]) (A ++ [(e.n, t)])
theorem TOk.len : ∀ {E : Ew} {A : At}, TOk E A → A.length = E.length
  | _, _, .nil => rfl
  | _, _, .snoc h _ _ _ _ _ => by simp [TOk.len h]
theorem look_keys {α β : Type} {k : Str} : ∀ {l : List (Str × α)} {r : List (Str × β)}, l.map Prod.fst = r.map Prod.fst → Mb.look l k = none → Mb.look r k = none
  | [], [], _, _ => rfl
  | [], _ :: _, h, _ => by cases h
  | _ :: _, [], h, _ => by cases h
  | (x, a) :: l, (y, b) :: r, h, e => by
    simp only [List.map_cons, List.cons.injEq] at h
    obtain ⟨h1, h2⟩ := h
    subst h1
    have e : (if x = k then some a else Mb.look l k) = none := e
    show (if x = k then some b else Mb.look r k) = none
    by_cases q : x = k
    · rw [if_pos q] at e; cases e
    · rw [if_neg q] at e ⊢
      exact look_keys h2 e
theorem TOk.keys : ∀ {E : Ew} {A : At}, TOk E A → A.map Prod.fst = E.map En.n
  | _, _, .nil => rfl
  | _, _, .snoc h _ _ _ _ _ => by simp [TOk.keys h]
/-- what stands under a name -/
theorem TOk.look : ∀ {E : Ew} {A : At}, TOk E A → ∀ {n s : Str}, look (sortsE E) n = some s → ∃ e t, e.m.sort = s ∧ Mb.look (heavyE E) n = some e.w ∧ Mb.look A n = some t ∧ Ok1 E.length e t ∧ 1 ≤ e.w ∧ e.w ≤ 40 := by
  intro E A h
  induction h with
  | nil => intro n s e; cases e
  | @snoc E A e t g h f hg hr ht ok ih =>
    intro n s hs
    unfold sortsE at hs
    rw [List.map_append, look_append] at hs
    unfold heavyE
    rw [List.map_append, look_append, look_append]
    cases q : Mb.look (E.map fun e => (e.n, e.m.sort)) n with
    | some s' =>
      rw [q] at hs
      cases hs
      obtain ⟨e', t', h1, h2, h3, h4, h5, h6⟩ := ih q
      unfold heavyE at h2
      rw [h2, h3]
      refine ⟨e', t', h1, rfl, rfl, ?_, h5, h6⟩
      rcases h4 with ⟨j, w, hj, e, wo⟩ | h4
      · exact .inl ⟨j, w, by rw [List.length_append]; omega, e, wo⟩
      · exact .inr h4
    | none =>
      rw [q] at hs
      have k1 : (E.map fun e => (e.n, e.m.sort)).map Prod.fst = E.map En.n := by rw [List.map_map]; rfl
      have k2 : (E.map fun e => (e.n, e.w)).map Prod.fst = E.map En.n := by rw [List.map_map]; rfl
      rw [look_keys (k1.trans k2.symm) q, look_keys (k1.trans h.keys.symm) q]
      have hs : (if e.n = n then some e.m.sort else none) = some s := hs
      by_cases en : e.n = n
      · rw [if_pos en] at hs
        cases hs
        refine ⟨e, t, rfl, ?_, ?_, by rw [List.length_append]; exact ok, f.pos, f.le⟩
        · show (if e.n = n then some e.w else none) = some e.w
          rw [if_pos en]
        · show (if e.n = n then some t else none) = some t
          rw [if_pos en]
      · rw [if_neg en] at hs; cases hs
end Mb
set_option Elab.async false
set_option linter.all false
set_option maxRecDepth 100000
set_option maxHeartbeats 1000000
namespace Mb
open PySem PySem.Spec PyProof.Rows L2
/-! ### each thing tells something -/
theorem suits_eq {s a : Str} (h : suitsB s a = true) (ha : decide (a = "curve") = false) : s = a := by
  unfold suitsB at h
  rw [ha, Bool.false_and, Bool.or_false] at h
  exact of_decide_eq_true h
theorem suits_curve {s : Str} (h : suitsB s "curve" = true) : s = "curve" ∨ s = "line" ∨ s = "circle" := by
  unfold suitsB at h
  rw [Bool.or_eq_true, Bool.and_eq_true, Bool.or_eq_true] at h
  rcases h with h | ⟨_, h | h⟩
  · exact .inl (of_decide_eq_true h)
  · exact .inr (.inl (of_decide_eq_true h).symm)
  · exact .inr (.inr (of_decide_eq_true h).symm)
theorem words_ne : ("point" : Str) ≠ "line" ∧ ("point" : Str) ≠ "circle" ∧ ("point" : Str) ≠ "claim" ∧ ("line" : Str) ≠ "circle" ∧ ("line" : Str) ≠ "claim" ∧ ("circle" : Str) ≠ "claim" ∧ ("curve" : Str) ≠ "point" ∧ ("curve" : Str) ≠ "line" ∧ ("curve" : Str) ≠ "circle" ∧ ("curve" : Str) ≠ "claim" := by decide +kernel
theorem Shp.pt {t : Tl} (h : Shp "point" t) : ∃ p, t = .pt p := by
  obtain ⟨n1, n2, n3, _⟩ := words_ne
  rcases h with ⟨_, h⟩ | ⟨e, _⟩ | ⟨e, _⟩ | ⟨e, _⟩
  · exact h
  · exact absurd e n1
  · exact absurd e n2
  · exact absurd e n3
theorem Shp.ln {t : Tl} (h : Shp "line" t) : ∃ p, t = .line p := by
  obtain ⟨n1, n2, n3, n4, n5, _⟩ := words_ne
  rcases h with ⟨e, _⟩ | ⟨_, h⟩ | ⟨e, _⟩ | ⟨e, _⟩
  · exact absurd e.symm n1
  · exact h
  · exact absurd e n4
  · exact absurd e n5
theorem Shp.ci {t : Tl} (h : Shp "circle" t) : ∃ p, t = .circle p := by
  obtain ⟨n1, n2, n3, n4, n5, n6, _⟩ := words_ne
  rcases h with ⟨e, _⟩ | ⟨e, _⟩ | ⟨_, h⟩ | ⟨e, _⟩
  · exact absurd e.symm n2
  · exact absurd e.symm n4
  · exact h
  · exact absurd e n6
theorem Shp.curve {t : Tl} (h : Shp "curve" t) : False := by
  obtain ⟨n1, n2, n3, n4, n5, n6, n7, n8, n9, n10⟩ := words_ne
  rcases h with ⟨e, _⟩ | ⟨e, _⟩ | ⟨e, _⟩ | ⟨e, _⟩
  · exact n7 e
  · exact n8 e
  · exact n9 e
  · exact n10 e
theorem TOk.name : ∀ {E : Ew} {A : At}, TOk E A → ∀ j, j < E.length → ((E[j]?).map En.n).getD "" = nm j := by
  intro E A h
  induction h with
  | nil => intro j hj; cases hj
  | @snoc E A e t g h f hg hr ht ok ih =>
    intro j hj
    rw [List.length_append, List.length_singleton] at hj
    by_cases q : j < E.length
    · rw [List.getElem?_append_left q]; exact ih j q
    · have : j = E.length := by omega
      subst this
      rw [List.getElem?_append_right (Nat.le_refl _), Nat.sub_self]
      exact f.name
theorem rank_at : ∀ n, n ≤ 16 → ∀ j, j < n → look ((List.range n).map fun (j : Nat) => (nm j, (j : Int))) (nm j) = some (j : Int) := by decide +kernel
theorem TOk.rank {E : Ew} {A : At} (T : TOk E A) (hE : E.length ≤ 16) {j : Nat} (hj : j < E.length) : Mb.look (rankE E) (nm j) = some (j : Int) := by
  have e : rankE E = (List.range E.length).map fun (j : Nat) => (nm j, (j : Int)) := by
    unfold rankE
    refine List.map_congr_left fun i hi => ?_
    rw [T.name i (List.mem_range.mp hi)]
  rw [e]
  exact rank_at _ hE j hj
theorem gone_mem {A : At} : ∀ {ns : List Str} {x : Str × Str}, x ∈ goneL A ns → ∃ n ∈ ns, look A n = some (.gone x.1 x.2)
  | [], x, h => by cases h
  | n :: ns, x, h => by
    rcases List.mem_append.mp h with q | q
    · unfold gone1 at q
      split at q
      · rename_i a b e
        rw [List.mem_singleton] at q
        subst q
        exact ⟨n, List.mem_cons_self .., e⟩
      · cases q
    · obtain ⟨m, h1, h2⟩ := gone_mem q
      exact ⟨m, List.mem_cons_of_mem _ h1, h2⟩
theorem gone_nil {A : At} : ∀ {ns : List Str}, goneL A ns = [] → ∀ n ∈ ns, ∀ a b, look A n ≠ some (.gone a b)
  | [], _, n, h => by cases h
  | m :: ns, e, n, h => by
    have e1 := List.append_eq_nil_iff.mp e
    rcases List.mem_cons.mp h with q | q
    · subst q
      intro a b z
      have := e1.1
      unfold gone1 at this
      rw [z] at this
      cases this
    · exact gone_nil e1.2 n q
theorem firstG_mem {g : Str → Int} : ∀ (l : List (Str × Str)) (f : Str × Str), firstG g f l = f ∨ firstG g f l ∈ l
  | [], f => .inl rfl
  | o :: l, f => by
    unfold firstG
    split
    · rcases firstG_mem l o with h | h
      · exact .inr (by rw [h]; exact List.mem_cons_self ..)
      · exact .inr (List.mem_cons_of_mem _ h)
    · rcases firstG_mem l f with h | h
      · exact .inl h
      · exact .inr (List.mem_cons_of_mem _ h)
theorem Fits2.get {S : List (Str × Str)} : ∀ {ns as : List Str}, Fits2 S ns as → ∀ n ∈ ns, ∃ s, look S n = some s
  | n :: ns, a :: as, h, x, hx => by
    rcases List.mem_cons.mp hx with e | e
    · subst e; obtain ⟨⟨s, h1, _⟩, _⟩ := h; exact ⟨s, h1⟩
    · exact Fits2.get h.2 x e
  | [], [], _, _, hx => by cases hx
  | [], _ :: _, h, _, _ => h.elim
  | _ :: _, [], h, _, _ => h.elim
/-- what a ground tells where none is gone -/
structure Gd (A : At) (H : List (Str × Int)) (h : Str → Int) (n : Str) (t : Tl) : Prop where
  look : Mb.look A n = some t
  wt : WT (h n).toNat t
  pos : 1 ≤ h n
theorem ground {E : Ew} {A : At} (T : TOk E A) {n s : Str} {h : Str → Int} (hs : Mb.look (sortsE E) n = some s) (hh : Mb.look (heavyE E) n = some (h n)) (hp : 1 ≤ h n) (ng : ∀ a b, Mb.look A n ≠ some (.gone a b)) : ∃ t, Shp s t ∧ Gd A (heavyE E) h n t := by
  obtain ⟨e, t, h1, h2, h3, h4, h5, h6⟩ := T.look hs
  rw [hh] at h2
  have e2 : h n = e.w := Option.some.inj h2
  rcases h4 with ⟨j, w, _, rfl, _⟩ | ⟨h7, h8⟩
  · exact absurd h3 (ng _ _)
  · exact ⟨t, h1 ▸ h7, h3, by rw [e2]; exact h8, hp⟩
theorem g_pt {E : Ew} {A : At} (T : TOk E A) {n : Str} {h : Str → Int} (hs : ∃ s, Mb.look (sortsE E) n = some s ∧ suitsB s "point" = true) (hh : Mb.look (heavyE E) n = some (h n)) (hp : 1 ≤ h n) (ng : ∀ a b, Mb.look A n ≠ some (.gone a b)) : ∃ p, Gd A (heavyE E) h n (.pt p) := by
  obtain ⟨s, hs, su⟩ := hs
  have e := suits_eq su (by decide +kernel)
  subst e
  obtain ⟨t, h1, h2⟩ := ground T hs hh hp ng
  obtain ⟨p, rfl⟩ := h1.pt
  exact ⟨p, h2⟩
theorem g_ln {E : Ew} {A : At} (T : TOk E A) {n : Str} {h : Str → Int} (hs : ∃ s, Mb.look (sortsE E) n = some s ∧ suitsB s "line" = true) (hh : Mb.look (heavyE E) n = some (h n)) (hp : 1 ≤ h n) (ng : ∀ a b, Mb.look A n ≠ some (.gone a b)) : ∃ p, Gd A (heavyE E) h n (.line p) := by
  obtain ⟨s, hs, su⟩ := hs
  have e := suits_eq su (by decide +kernel)
  subst e
  obtain ⟨t, h1, h2⟩ := ground T hs hh hp ng
  obtain ⟨p, rfl⟩ := h1.ln
  exact ⟨p, h2⟩
theorem g_ci {E : Ew} {A : At} (T : TOk E A) {n : Str} {h : Str → Int} (hs : ∃ s, Mb.look (sortsE E) n = some s ∧ suitsB s "circle" = true) (hh : Mb.look (heavyE E) n = some (h n)) (hp : 1 ≤ h n) (ng : ∀ a b, Mb.look A n ≠ some (.gone a b)) : ∃ p, Gd A (heavyE E) h n (.circle p) := by
  obtain ⟨s, hs, su⟩ := hs
  have e := suits_eq su (by decide +kernel)
  subst e
  obtain ⟨t, h1, h2⟩ := ground T hs hh hp ng
  obtain ⟨p, rfl⟩ := h1.ci
  exact ⟨p, h2⟩
/-- where no ground is gone: the making with its grounds' places, within its weight -/
theorem res_of {E : Ew} {A : At} (T : TOk E A) {e : En} (f : Fine E e) (ng : goneL A e.m.gr = []) : ∃ r, Res (Mb.look A) e.m r ∧ RW r e.w.toNat := by
  obtain ⟨en, em, ew⟩ := e
  have ff := f.fits
  have ffar := f.far
  have fsh := f.share
  have fcut := f.cut
  have ng' := gone_nil ng
  obtain ⟨c, h, W, hw, hp⟩ := f.wgt
  have hv := W.hv
  have hc := W.c
  dsimp only at ff ffar fsh fcut ng' hw hp hv hc
  show ∃ r, Res (Mb.look A) em r ∧ RW r ew.toNat
  cases em with
  | free x y =>
    have e : ew = 1 := hw.symm
    subst e
    exact ⟨.free x y, .free, ffar.1, ffar.2, rfl⟩
  | middle p q =>
    obtain ⟨f0, f1, _⟩ := ff
    obtain ⟨t0, G0⟩ := g_pt (h := h) T f0 (hv p (by simp [Mk.gr])) (hp p (by simp [Mk.gr])) (ng' p (by simp [Mk.gr]))
    obtain ⟨t1, G1⟩ := g_pt (h := h) T f1 (hv q (by simp [Mk.gr])) (hp q (by simp [Mk.gr])) (ng' q (by simp [Mk.gr]))
    have p0 := G0.pos
    have p1 := G1.pos
    have hw : h p + h q = ew := hw
    exact ⟨.middle t0 t1, .middle G0.look G1.look, (h p).toNat, (h q).toNat, by omega, by omega, G0.wt, G1.wt, by omega⟩
  | next p q =>
    obtain ⟨f0, f1, _⟩ := ff
    obtain ⟨t0, G0⟩ := g_pt (h := h) T f0 (hv p (by simp [Mk.gr])) (hp p (by simp [Mk.gr])) (ng' p (by simp [Mk.gr]))
    obtain ⟨t1, G1⟩ := g_pt (h := h) T f1 (hv q (by simp [Mk.gr])) (hp q (by simp [Mk.gr])) (ng' q (by simp [Mk.gr]))
    have p0 := G0.pos
    have p1 := G1.pos
    have hw : h p + h q = ew := hw
    exact ⟨.next t0 t1, .next G0.look G1.look, (h p).toNat, (h q).toNat, by omega, by omega, G0.wt, G1.wt, by omega⟩
  | turn p q =>
    obtain ⟨f0, f1, _⟩ := ff
    obtain ⟨t0, G0⟩ := g_pt (h := h) T f0 (hv p (by simp [Mk.gr])) (hp p (by simp [Mk.gr])) (ng' p (by simp [Mk.gr]))
    obtain ⟨t1, G1⟩ := g_pt (h := h) T f1 (hv q (by simp [Mk.gr])) (hp q (by simp [Mk.gr])) (ng' q (by simp [Mk.gr]))
    have p0 := G0.pos
    have p1 := G1.pos
    have hw : h p + h q = ew := hw
    exact ⟨.turn t0 t1, .turn G0.look G1.look, (h p).toNat, (h q).toNat, by omega, by omega, G0.wt, G1.wt, by omega⟩
  | line p q =>
    obtain ⟨f0, f1, _⟩ := ff
    obtain ⟨t0, G0⟩ := g_pt (h := h) T f0 (hv p (by simp [Mk.gr])) (hp p (by simp [Mk.gr])) (ng' p (by simp [Mk.gr]))
    obtain ⟨t1, G1⟩ := g_pt (h := h) T f1 (hv q (by simp [Mk.gr])) (hp q (by simp [Mk.gr])) (ng' q (by simp [Mk.gr]))
    have p0 := G0.pos
    have p1 := G1.pos
    have hw : h p + h q = ew := hw
    exact ⟨.line t0 t1, .line G0.look G1.look, (h p).toNat, (h q).toNat, by omega, by omega, G0.wt, G1.wt, by omega⟩
  | circle p q =>
    obtain ⟨f0, f1, _⟩ := ff
    obtain ⟨t0, G0⟩ := g_pt (h := h) T f0 (hv p (by simp [Mk.gr])) (hp p (by simp [Mk.gr])) (ng' p (by simp [Mk.gr]))
    obtain ⟨t1, G1⟩ := g_pt (h := h) T f1 (hv q (by simp [Mk.gr])) (hp q (by simp [Mk.gr])) (ng' q (by simp [Mk.gr]))
    have p0 := G0.pos
    have p1 := G1.pos
    have hw : h p + h q = ew := hw
    exact ⟨.circle t0 t1, .circle G0.look G1.look, (h p).toNat, (h q).toNat, by omega, by omega, G0.wt, G1.wt, by omega⟩
  | share p q t =>
    obtain ⟨f0, f1, _⟩ := ff
    obtain ⟨t0, G0⟩ := g_pt (h := h) T f0 (hv p (by simp [Mk.gr])) (hp p (by simp [Mk.gr])) (ng' p (by simp [Mk.gr]))
    obtain ⟨t1, G1⟩ := g_pt (h := h) T f1 (hv q (by simp [Mk.gr])) (hp q (by simp [Mk.gr])) (ng' q (by simp [Mk.gr]))
    have p0 := G0.pos
    have p1 := G1.pos
    have hw : h p + h q = ew := hw
    exact ⟨.share t0 t1 t, .share G0.look G1.look, fsh p q t rfl, (h p).toNat, (h q).toNat, by omega, by omega, G0.wt, G1.wt, by omega⟩
  | foot p l =>
    obtain ⟨f0, f1, _⟩ := ff
    obtain ⟨t0, G0⟩ := g_pt (h := h) T f0 (hv p (by simp [Mk.gr])) (hp p (by simp [Mk.gr])) (ng' p (by simp [Mk.gr]))
    obtain ⟨t1, G1⟩ := g_ln (h := h) T f1 (hv l (by simp [Mk.gr])) (hp l (by simp [Mk.gr])) (ng' l (by simp [Mk.gr]))
    have p0 := G0.pos
    have p1 := G1.pos
    have hw : h p + 2 * h l = ew := hw
    exact ⟨.foot t0 t1, .foot G0.look G1.look, (h p).toNat, (h l).toNat, by omega, by omega, G0.wt, G1.wt, by omega⟩
  | mirror p l =>
    obtain ⟨f0, f1, _⟩ := ff
    obtain ⟨t0, G0⟩ := g_pt (h := h) T f0 (hv p (by simp [Mk.gr])) (hp p (by simp [Mk.gr])) (ng' p (by simp [Mk.gr]))
    obtain ⟨t1, G1⟩ := g_ln (h := h) T f1 (hv l (by simp [Mk.gr])) (hp l (by simp [Mk.gr])) (ng' l (by simp [Mk.gr]))
    have p0 := G0.pos
    have p1 := G1.pos
    have hw : h p + 2 * h l = ew := hw
    exact ⟨.mirror t0 t1, .mirror G0.look G1.look, (h p).toNat, (h l).toNat, by omega, by omega, G0.wt, G1.wt, by omega⟩
  | along p l =>
    obtain ⟨f0, f1, _⟩ := ff
    obtain ⟨t0, G0⟩ := g_pt (h := h) T f0 (hv p (by simp [Mk.gr])) (hp p (by simp [Mk.gr])) (ng' p (by simp [Mk.gr]))
    obtain ⟨t1, G1⟩ := g_ln (h := h) T f1 (hv l (by simp [Mk.gr])) (hp l (by simp [Mk.gr])) (ng' l (by simp [Mk.gr]))
    have p0 := G0.pos
    have p1 := G1.pos
    have hw : h p + h l = ew := hw
    exact ⟨.along t0 t1, .along G0.look G1.look, (h p).toNat, (h l).toNat, by omega, by omega, G0.wt, G1.wt, by omega⟩
  | upright p l =>
    obtain ⟨f0, f1, _⟩ := ff
    obtain ⟨t0, G0⟩ := g_pt (h := h) T f0 (hv p (by simp [Mk.gr])) (hp p (by simp [Mk.gr])) (ng' p (by simp [Mk.gr]))
    obtain ⟨t1, G1⟩ := g_ln (h := h) T f1 (hv l (by simp [Mk.gr])) (hp l (by simp [Mk.gr])) (ng' l (by simp [Mk.gr]))
    have p0 := G0.pos
    have p1 := G1.pos
    have hw : h p + h l = ew := hw
    exact ⟨.upright t0 t1, .upright G0.look G1.look, (h p).toNat, (h l).toNat, by omega, by omega, G0.wt, G1.wt, by omega⟩
  | meet l m =>
    obtain ⟨f0, f1, _⟩ := ff
    obtain ⟨t0, G0⟩ := g_ln (h := h) T f0 (hv l (by simp [Mk.gr])) (hp l (by simp [Mk.gr])) (ng' l (by simp [Mk.gr]))
    obtain ⟨t1, G1⟩ := g_ln (h := h) T f1 (hv m (by simp [Mk.gr])) (hp m (by simp [Mk.gr])) (ng' m (by simp [Mk.gr]))
    have p0 := G0.pos
    have p1 := G1.pos
    have hw : h l + h m = ew := hw
    exact ⟨.meet t0 t1, .meet G0.look G1.look, (h l).toNat, (h m).toNat, by omega, by omega, G0.wt, G1.wt, by omega⟩
  | beside l m =>
    obtain ⟨f0, f1, _⟩ := ff
    obtain ⟨t0, G0⟩ := g_ln (h := h) T f0 (hv l (by simp [Mk.gr])) (hp l (by simp [Mk.gr])) (ng' l (by simp [Mk.gr]))
    obtain ⟨t1, G1⟩ := g_ln (h := h) T f1 (hv m (by simp [Mk.gr])) (hp m (by simp [Mk.gr])) (ng' m (by simp [Mk.gr]))
    have p0 := G0.pos
    have p1 := G1.pos
    have hw : h l + h m = ew := hw
    exact ⟨.beside t0 t1, .beside G0.look G1.look, (h l).toNat, (h m).toNat, by omega, by omega, G0.wt, G1.wt, by omega⟩
  | square l m =>
    obtain ⟨f0, f1, _⟩ := ff
    obtain ⟨t0, G0⟩ := g_ln (h := h) T f0 (hv l (by simp [Mk.gr])) (hp l (by simp [Mk.gr])) (ng' l (by simp [Mk.gr]))
    obtain ⟨t1, G1⟩ := g_ln (h := h) T f1 (hv m (by simp [Mk.gr])) (hp m (by simp [Mk.gr])) (ng' m (by simp [Mk.gr]))
    have p0 := G0.pos
    have p1 := G1.pos
    have hw : h l + h m = ew := hw
    exact ⟨.square t0 t1, .square G0.look G1.look, (h l).toNat, (h m).toNat, by omega, by omega, G0.wt, G1.wt, by omega⟩
  | inline p q r =>
    obtain ⟨f0, f1, f2, _⟩ := ff
    obtain ⟨t0, G0⟩ := g_pt (h := h) T f0 (hv p (by simp [Mk.gr])) (hp p (by simp [Mk.gr])) (ng' p (by simp [Mk.gr]))
    obtain ⟨t1, G1⟩ := g_pt (h := h) T f1 (hv q (by simp [Mk.gr])) (hp q (by simp [Mk.gr])) (ng' q (by simp [Mk.gr]))
    obtain ⟨t2, G2⟩ := g_pt (h := h) T f2 (hv r (by simp [Mk.gr])) (hp r (by simp [Mk.gr])) (ng' r (by simp [Mk.gr]))
    have p0 := G0.pos
    have p1 := G1.pos
    have p2 := G2.pos
    have hw : h p + (h q + h r) = ew := hw
    exact ⟨.inline t0 t1 t2, .inline G0.look G1.look G2.look, (h p).toNat, (h q).toNat, (h r).toNat, by omega, by omega, by omega, G0.wt, G1.wt, G2.wt, by omega⟩
  | round p q r s =>
    obtain ⟨f0, f1, f2, f3, _⟩ := ff
    obtain ⟨t0, G0⟩ := g_pt (h := h) T f0 (hv p (by simp [Mk.gr])) (hp p (by simp [Mk.gr])) (ng' p (by simp [Mk.gr]))
    obtain ⟨t1, G1⟩ := g_pt (h := h) T f1 (hv q (by simp [Mk.gr])) (hp q (by simp [Mk.gr])) (ng' q (by simp [Mk.gr]))
    obtain ⟨t2, G2⟩ := g_pt (h := h) T f2 (hv r (by simp [Mk.gr])) (hp r (by simp [Mk.gr])) (ng' r (by simp [Mk.gr]))
    obtain ⟨t3, G3⟩ := g_pt (h := h) T f3 (hv s (by simp [Mk.gr])) (hp s (by simp [Mk.gr])) (ng' s (by simp [Mk.gr]))
    have p0 := G0.pos
    have p1 := G1.pos
    have p2 := G2.pos
    have p3 := G3.pos
    have hw : 2 * (h p + (h q + (h r + h s))) = ew := hw
    exact ⟨.round t0 t1 t2 t3, .round G0.look G1.look G2.look G3.look, (h p).toNat, (h q).toNat, (h r).toNat, (h s).toNat, by omega, by omega, by omega, by omega, G0.wt, G1.wt, G2.wt, G3.wt, by omega⟩
  | alike p q r s =>
    obtain ⟨f0, f1, f2, f3, _⟩ := ff
    obtain ⟨t0, G0⟩ := g_pt (h := h) T f0 (hv p (by simp [Mk.gr])) (hp p (by simp [Mk.gr])) (ng' p (by simp [Mk.gr]))
    obtain ⟨t1, G1⟩ := g_pt (h := h) T f1 (hv q (by simp [Mk.gr])) (hp q (by simp [Mk.gr])) (ng' q (by simp [Mk.gr]))
    obtain ⟨t2, G2⟩ := g_pt (h := h) T f2 (hv r (by simp [Mk.gr])) (hp r (by simp [Mk.gr])) (ng' r (by simp [Mk.gr]))
    obtain ⟨t3, G3⟩ := g_pt (h := h) T f3 (hv s (by simp [Mk.gr])) (hp s (by simp [Mk.gr])) (ng' s (by simp [Mk.gr]))
    have p0 := G0.pos
    have p1 := G1.pos
    have p2 := G2.pos
    have p3 := G3.pos
    have hw : 2 * (h p + (h q + (h r + h s))) = ew := hw
    exact ⟨.alike t0 t1 t2 t3, .alike G0.look G1.look G2.look G3.look, (h p).toNat, (h q).toNat, (h r).toNat, (h s).toNat, by omega, by omega, by omega, by omega, G0.wt, G1.wt, G2.wt, G3.wt, by omega⟩
  | cut u v k =>
    obtain ⟨⟨s, hs, su⟩, f1, _⟩ := ff
    obtain ⟨t1, G1⟩ := g_ci (h := h) T f1 (hv v (by simp [Mk.gr])) (hp v (by simp [Mk.gr])) (ng' v (by simp [Mk.gr]))
    obtain ⟨s', hs', ec⟩ := hc u v k rfl
    rw [hs] at hs'
    have es : s = s' := Option.some.inj hs'
    subst es
    obtain ⟨t, sh, G0⟩ := ground (h := h) T hs (hv u (by simp [Mk.gr])) (hp u (by simp [Mk.gr])) (ng' u (by simp [Mk.gr]))
    have p0 := G0.pos
    have p1 := G1.pos
    have hw : (if c = true then 5 * (h u + h v) else 2 * h u + h v) = ew := hw
    rcases suits_curve su with rfl | rfl | rfl
    · exact (Shp.curve sh).elim
    · obtain ⟨l, rfl⟩ := sh.ln
      have e0 : c = false := by rw [ec]; exact decide_eq_false (by decide +kernel)
      rw [e0, if_neg (by decide)] at hw
      exact ⟨.cutL l t1 k, .cutL G0.look G1.look, fcut u v k rfl, (h u).toNat, (h v).toNat, by omega, by omega, G0.wt, G1.wt, by omega⟩
    · obtain ⟨l, rfl⟩ := sh.ci
      have e0 : c = true := by rw [ec]; exact decide_eq_true rfl
      rw [e0, if_pos rfl] at hw
      exact ⟨.cutC l t1 k, .cutC G0.look G1.look, fcut u v k rfl, (h u).toNat, (h v).toNat, by omega, by omega, G0.wt, G1.wt, by omega⟩
end Mb
set_option Elab.async false
set_option linter.all false
set_option maxRecDepth 100000
set_option maxHeartbeats 1000000
namespace Mb
open PySem PySem.Spec PyProof.Rows L2
/-! ### the next thing's telling -/
theorem cutR_shp {l : Ln} {C : Ci} {k : Int} {t : Tl} (h : cutR l C k = .ok t) : Shp "point" t := .inl ⟨rfl, cutR_pt h⟩
theorem keptOr_shp {b : Bool} {t : Tl} (h : keptOr b = .ok t) : Shp "claim" t := by
  cases b <;> (injection h with h; subst h)
  · exact .inr (.inr (.inr ⟨rfl, .inr rfl⟩))
  · exact .inr (.inr (.inr ⟨rfl, .inl rfl⟩))
theorem made_shp {f : Str → Option Tl} {m : Mk} {r : Rm} {t : Tl} (h : Res f m r) (e : made r = .ok t) : Shp m.sort t := by
  cases h with
  | inline | round | alike | beside | square => exact keptOr_shp e
  | free | middle | share | next | turn | foot | mirror =>
    injection e with e
    subst e
    exact .inl ⟨rfl, _, rfl⟩
  | along | upright =>
    injection e with e
    subst e
    exact .inr (.inl ⟨rfl, _, rfl⟩)
  | cutL => exact cutR_shp e
  | cutC h1 h2 =>
    rename_i k X Y
    by_cases ne : X.c = Y.c
    · have e2 : made (.cutC X Y k) = .fails "centre" := if_pos ne
      rw [e2] at e; cases e
    · have e2 : made (.cutC X Y k) = cutR (betw X Y) X k := if_neg ne
      rw [e2] at e
      exact cutR_shp e
  | meet h1 h2 =>
    rename_i X Y
    by_cases ne : par X Y
    · have e2 : made (.meet X Y) = .fails "parallel" := if_pos ne
      rw [e2] at e; cases e
    · have e2 : made (.meet X Y) = .ok (.pt (meet X Y)) := if_neg ne
      rw [e2] at e
      injection e with e
      subst e
      exact .inl ⟨rfl, _, rfl⟩
  | line h1 h2 =>
    rename_i X Y
    by_cases ne : X = Y
    · have e2 : made (.line X Y) = .fails "same" := if_pos ne
      rw [e2] at e; cases e
    · have e2 : made (.line X Y) = .ok (.line (through X Y)) := if_neg ne
      rw [e2] at e
      injection e with e
      subst e
      exact .inr (.inl ⟨rfl, _, rfl⟩)
  | circle h1 h2 =>
    rename_i X Y
    by_cases ne : X = Y
    · have e2 : made (.circle X Y) = .fails "same" := if_pos ne
      rw [e2] at e; cases e
    · have e2 : made (.circle X Y) = .ok (.circle (about X Y)) := if_neg ne
      rw [e2] at e
      injection e with e
      subst e
      exact .inr (.inr (.inl ⟨rfl, _, rfl⟩))
theorem Shp.not_gone {s a b : Str} (h : Shp s (.gone a b)) : False := by
  rcases h with ⟨_, _, h⟩ | ⟨_, _, h⟩ | ⟨_, _, h⟩ | ⟨_, h | h⟩ <;> cases h
/-- what fails has a word -/
theorem words_ok : WordOk "miss" ∧ WordOk "root" ∧ WordOk "same" ∧ WordOk "parallel" ∧ WordOk "centre" := by
  have l1 : PyData.strOk "miss" = true := by decide +kernel
  have l2 : PyData.strOk "root" = true := by decide +kernel
  have l3 : PyData.strOk "same" = true := by decide +kernel
  have l4 : PyData.strOk "parallel" = true := by decide +kernel
  have l5 : PyData.strOk "centre" = true := by decide +kernel
  exact ⟨⟨by decide +kernel, l1⟩, ⟨by decide +kernel, l2⟩, ⟨by decide +kernel, l3⟩, ⟨by decide +kernel, l4⟩, ⟨by decide +kernel, l5⟩⟩
theorem fails_ok {r : Rm} {w : Str} (h : made r = .fails w) : WordOk w := by
  obtain ⟨w1, w2, w3, w4, w5⟩ := words_ok
  have cut : ∀ {l : Ln} {C : Ci} {k : Int}, cutR l C k = .fails w → WordOk w := fun {l C k} h => by
    unfold cutR at h
    split at h
    · injection h with h; subst h; assumption
    · split at h
      · cases h
      · injection h with h; subst h; assumption
  have kept : ∀ {b : Bool}, keptOr b = .fails w → WordOk w := fun {b} h => by cases b <;> cases h
  cases r with
  | cutL => exact cut h
  | inline | round | alike | beside | square => exact kept h
  | free | middle | share | next | turn | foot | mirror | along | upright => cases h
  | cutC X Y k =>
    by_cases ne : X.c = Y.c
    · have e2 : made (.cutC X Y k) = .fails "centre" := if_pos ne
      rw [e2] at h
      injection h with h; subst h; assumption
    · have e2 : made (.cutC X Y k) = cutR (betw X Y) X k := if_neg ne
      rw [e2] at h
      exact cut h
  | meet X Y =>
    by_cases ne : par X Y
    · have e2 : made (.meet X Y) = .fails "parallel" := if_pos ne
      rw [e2] at h
      injection h with h; subst h; assumption
    · have e2 : made (.meet X Y) = .ok (.pt (meet X Y)) := if_neg ne
      rw [e2] at h
      cases h
  | line X Y =>
    by_cases ne : X = Y
    · have e2 : made (.line X Y) = .fails "same" := if_pos ne
      rw [e2] at h
      injection h with h; subst h; assumption
    · have e2 : made (.line X Y) = .ok (.line (through X Y)) := if_neg ne
      rw [e2] at h
      cases h
  | circle X Y =>
    by_cases ne : X = Y
    · have e2 : made (.circle X Y) = .fails "same" := if_pos ne
      rw [e2] at h
      injection h with h; subst h; assumption
    · have e2 : made (.circle X Y) = .ok (.circle (about X Y)) := if_neg ne
      rw [e2] at h
      cases h
/-- the rank of a thing by its name -/
def gE (E : Ew) (x : Str) : Int := (look (rankE E) x).getD 0
theorem TOk.gone_rank {E : Ew} {A : At} (T : TOk E A) (hE : E.length ≤ 16) {e : En} (f : Fine E e) : ∀ x ∈ goneL A e.m.gr, ∃ j, j < E.length ∧ x.1 = nm j ∧ WordOk x.2 := by
  intro x hx
  obtain ⟨n, hn, hl⟩ := gone_mem hx
  obtain ⟨s, hs⟩ := f.fits.get n hn
  obtain ⟨e', t, _, _, h3, h4, _⟩ := T.look hs
  rw [hl] at h3
  have h3 := Option.some.inj h3
  subst h3
  rcases h4 with ⟨j, w, hj, e, wo⟩ | ⟨h5, _⟩
  · injection e with e1 e2
    exact ⟨j, hj, e1, by rw [e2]; exact wo⟩
  · exact h5.not_gone.elim
theorem TOk.gr {E : Ew} {A : At} (T : TOk E A) {e : En} (f : Fine E e) : ∀ x ∈ e.m.gr, ∃ t, Mb.look A x = some t := by
  intro x hx
  obtain ⟨s, hs⟩ := f.fits.get x hx
  obtain ⟨e', t, _, _, h3, _⟩ := T.look hs
  exact ⟨t, h3⟩
theorem TOk.ranked {E : Ew} {A : At} (T : TOk E A) (hE : E.length ≤ 16) {e : En} (f : Fine E e) : ∀ x ∈ goneL A e.m.gr, Mb.look (rankE E) x.1 = some (gE E x.1) := by
  intro x hx
  obtain ⟨j, hj, ex, _⟩ := T.gone_rank hE f x hx
  unfold gE
  rw [ex, T.rank hE hj]
  rfl
/-- each fine thing tells something -/
theorem TOk.next {E : Ew} {A : At} (T : TOk E A) (hE : E.length ≤ 16) {e : En} (f : Fine E e) : ∃ t, TOk (E ++ [e]) (A ++ [(e.n, t)]) := by
  have fin : ∀ t, Tells A (gE E) e.n e.m t → Ok1 (E.length + 1) e t → ∃ t, TOk (E ++ [e]) (A ++ [(e.n, t)]) := fun t h1 h2 => ⟨t, .snoc T f (T.gr f) (T.ranked hE f) h1 h2⟩
  cases q : goneL A e.m.gr with
  | nil =>
    obtain ⟨r, h1, h2⟩ := res_of T f q
    have l40 := f.le
    have sz := h2.szM (by omega)
    cases er : made r with
    | ok t =>
      refine fin t ?_ (.inr ⟨made_shp h1 er, made_WT h2 er⟩)
      unfold Tells
      rw [q]
      exact ⟨r, h1, sz, by rw [er]⟩
    | fails w =>
      refine fin (.gone e.n w) ?_ (.inl ⟨E.length, w, by omega, by rw [f.name], fails_ok er⟩)
      unfold Tells
      rw [q]
      exact ⟨r, h1, sz, by rw [er]⟩
  | cons x l =>
    have hm : firstG (gE E) x (x :: l) ∈ goneL A e.m.gr := by
      rw [q]
      rcases firstG_mem (g := gE E) (x :: l) x with h | h
      · rw [h]; exact List.mem_cons_self ..
      · exact h
    obtain ⟨j, hj, ex, wo⟩ := T.gone_rank hE f _ hm
    refine fin (.gone (firstG (gE E) x (x :: l)).1 (firstG (gE E) x (x :: l)).2) ?_ (.inl ⟨j, _, by omega, by rw [ex], wo⟩)
    unfold Tells
    rw [q]
theorem TOk.fineLen {E : Ew} {A : At} : TOk E A → E.length ≤ 16
  | .nil => by decide
  | .snoc _ f _ _ _ _ => by
    have := f.small
    simp
    omega
/-- a drawn row tells -/
theorem VR.tells : ∀ {E : Ew}, VR E → ∃ A, TOk E A
  | _, .nil => ⟨[], .nil⟩
  | _, .snoc v f => by
    obtain ⟨A, T⟩ := v.tells
    obtain ⟨t, h⟩ := T.next v.len f
    exact ⟨_, h⟩
/-! ### by place -/
structure Pt (E : Ew) (A : At) (i : Nat) (x : En) (t : Tl) : Prop where
  e : E[i]? = some x
  a : A[i]? = some (x.n, t)
  ok : TOk (E.take i) (A.take i)
  fine : Fine (E.take i) x
  ex : ∃ g : Str → Int, (∀ z ∈ goneL (A.take i) x.m.gr, look (rankE (E.take i)) z.1 = some (g z.1)) ∧ Tells (A.take i) g x.n x.m t
theorem TOk.at {E : Ew} {A : At} (T : TOk E A) : ∀ i, i < E.length → ∃ e t, Pt E A i e t := by
  induction T with
  | nil => intro i hi; cases hi
  | @snoc E A e t g h f hg hr ht ok ih =>
    intro i hi
    have hl := h.len
    rw [List.length_append, List.length_singleton] at hi
    by_cases q : i < E.length
    · obtain ⟨e', t', p⟩ := ih i q
      refine ⟨e', t', ?_, ?_, ?_, ?_, ?_⟩
      · rw [List.getElem?_append_left q]; exact p.e
      · rw [List.getElem?_append_left (by omega)]; exact p.a
      · rw [List.take_append_of_le_length (by omega), List.take_append_of_le_length (by omega)]; exact p.ok
      · rw [List.take_append_of_le_length (by omega)]; exact p.fine
      · rw [List.take_append_of_le_length (by omega), List.take_append_of_le_length (by omega)]; exact p.ex
    · have e1 : i = E.length := by omega
      subst e1
      refine ⟨e, t, ?_, ?_, ?_, ?_, ?_⟩
      · rw [List.getElem?_append_right (Nat.le_refl _), Nat.sub_self]; rfl
      · rw [← hl, List.getElem?_append_right (Nat.le_refl _), Nat.sub_self]; rfl
      · rw [List.take_left' rfl, List.take_left' hl]; exact h
      · rw [List.take_left' rfl]; exact f
      · rw [List.take_left' rfl, List.take_left' hl]; exact ⟨g, hr, ht⟩
theorem look_out {α : Type} {k : Str} : ∀ {l : List (Str × α)}, (∀ x ∈ l, x.1 ≠ k) → look l k = none
  | [], _ => rfl
  | (x, a) :: l, h => by
    show (if x = k then some a else look l k) = none
    rw [if_neg (h _ (List.mem_cons_self ..))]
    exact look_out fun y hy => h y (List.mem_cons_of_mem _ hy)
theorem TOk.nm {E : Ew} {A : At} (T : TOk E A) {i : Nat} {e : En} (h : E[i]? = some e) : e.n = Mb.nm i := by
  have hi : i < E.length := (List.getElem?_eq_some_iff.mp h).1
  have := T.name i hi
  rw [h] at this
  exact this
theorem TOk.fresh {E : Ew} {A : At} (T : TOk E A) {k : Nat} (hk : E.length ≤ k) (h16 : k < 16) : ∀ e ∈ E, e.n ≠ Mb.nm k := by
  intro e he z
  obtain ⟨i, hi⟩ := List.getElem?_of_mem he
  have hl : i < E.length := (List.getElem?_eq_some_iff.mp hi).1
  rw [T.nm hi] at z
  have := nm_inj i (by omega) k h16 z
  omega
theorem TOk.newS {E : Ew} {A : At} (T : TOk E A) {k : Nat} (hk : E.length ≤ k) (h16 : k < 16) : Mb.look (sortsE E) (Mb.nm k) = none ∧ Mb.look (heavyE E) (Mb.nm k) = none ∧ Mb.look A (Mb.nm k) = none := by
  have fr := T.fresh hk h16
  refine ⟨look_out fun x hx => ?_, look_out fun x hx => ?_, look_out fun x hx => ?_⟩
  · obtain ⟨e, he, rfl⟩ := List.mem_map.mp hx
    exact fr e he
  · obtain ⟨e, he, rfl⟩ := List.mem_map.mp hx
    exact fr e he
  · have hx2 : x.1 ∈ A.map Prod.fst := List.mem_map_of_mem hx
    rw [T.keys] at hx2
    obtain ⟨e, he, ee⟩ := List.mem_map.mp hx2
    rw [← ee]
    exact fr e he
theorem ranks_rankE {E : Ew} {i : Nat} (hi : i ≤ E.length) : ranks (E.map En.r) i = rankE (E.take i) := by
  unfold ranks rankE
  have hl : (E.take i).length = i := by rw [List.length_take]; omega
  rw [hl]
  refine List.map_congr_left fun j hj => ?_
  have hj := List.mem_range.mp hj
  unfold nameAt
  rw [List.getElem?_map, List.getElem?_take, if_pos hj]
  cases E[j]? <;> rfl
theorem rank_new {E : Ew} {A : At} (T : TOk E A) {k : Nat} (hk : E.length ≤ k) (h16 : k < 16) : look (rankE E) (nm k) = none := by
  refine look_out fun x hx => ?_
  unfold rankE at hx
  obtain ⟨j, hj, rfl⟩ := List.mem_map.mp hx
  have hj := List.mem_range.mp hj
  dsimp only
  rw [T.name j hj]
  intro z
  have := nm_inj j (by omega) k h16 z
  omega
theorem TOk.steps {E : Ew} {A : At} (T : TOk E A) : Steps (E.map En.r) A := by
  have h16 := T.fineLen
  refine ⟨by rw [List.length_map]; exact T.len, by rw [List.length_map]; exact h16, fun i hi => ?_⟩
  rw [List.length_map] at hi
  obtain ⟨e, t, p⟩ := T.at i hi
  have hl : (E.take i).length = i := by rw [List.length_take]; omega
  have en : e.n = Mb.nm i := T.nm p.e
  have nw := p.ok.newS (k := i) (by omega) (by omega)
  have rk := ranks_rankE (E := E) (i := i) (by omega)
  refine ⟨e.n, e.m, t, ?_, p.a, ?_, ?_, p.ok.gr p.fine, ?_⟩
  · rw [List.getElem?_map, p.e]; rfl
  · rw [en]; exact nw.2.2
  · rw [rk, en]; exact rank_new p.ok (by omega) (by omega)
  · rw [rk]; exact p.ex
end Mb
set_option Elab.async false
set_option linter.all false
set_option maxRecDepth 100000
set_option maxHeartbeats 4000000
namespace Mb
open PySem PySem.Spec PyProof.Rows L2
/-! ### anew -/
def c_anew : Ct := fun ds Q => ∃ E A, ds = [.list ((E.map En.r).map rowD)] ∧ TOk E A ∧ Q (.list (A.map fun x => tlD x.2))
theorem mo_anew : MoC c_anew := fun ds P P' m ⟨E, A, h1, h2, h3⟩ => ⟨E, A, h1, h2, m _ h3⟩
abbrev sKv (E : Ew) : List (Str × PyData) := (sortsE E).map fun x => (x.1, PyData.str x.2)
abbrev hKv (E : Ew) : List (Str × PyData) := (heavyE E).map fun x => (x.1, PyData.int x.2)
theorem tupOs_rows : ∀ R : Rw, tupOs (R.map rowD) = true
  | [] => rfl
  | x :: R => by
    show (tupO (rowD x) && tupOs (R.map rowD)) = true
    rw [tupO_row, tupOs_rows R]
    rfl
theorem tupOs_tls : ∀ A : At, tupOs (A.map fun x => tlD x.2) = true
  | [] => rfl
  | x :: A => by
    show (tupO (tlD x.2) && tupOs (A.map fun x => tlD x.2)) = true
    rw [tupO_tl, tupOs_tls A]
    rfl
theorem SameT.updF {K : PySem.W.Frag} {H : Hp} {D : Addr} {o : HO} {od : Obj} {zs : List V} (h : H D = some (.frz od (.lst zs))) : SameT K H (upd H D o) := fun a xs q => by
  rcases q with (q | ⟨p, q⟩) | q
  · exact .inl (.inl (by rw [upd_ne (by intro z; subst z; rw [h] at q; cases q)]; exact q))
  · exact .inl (.inr ⟨p, by rw [upd_ne (by intro z; subst z; rw [h] at q; cases q)]; exact q⟩)
  · exact .inr q
theorem sKv_snoc (E : Ew) (e : En) : sKv (E ++ [e]) = sKv E ++ [(e.n, .str e.m.sort)] := by
  show ((E ++ [e]).map fun e => (e.n, e.m.sort)).map _ = (E.map fun e => (e.n, e.m.sort)).map _ ++ _
  rw [List.map_append, List.map_append]
  rfl
theorem hKv_snoc (E : Ew) (e : En) : hKv (E ++ [e]) = hKv E ++ [(e.n, .int e.w)] := by
  show ((E ++ [e]).map fun e => (e.n, e.w)).map _ = (E.map fun e => (e.n, e.w)).map _ ++ _
  rw [List.map_append, List.map_append]
  rfl
theorem take_snoc {α : Type} {l : List α} {i : Nat} {x : α} (h : l[i]? = some x) : l.take (i + 1) = l.take i ++ [x] := by
  rw [List.take_add_one, h]
  rfl
section
variable {K : PySem.W.Frag} {H : Hp}
theorem KvT.sD {kvs : List (Key × V)} {E : Ew} {D : Addr} (h : KvT K H kvs (sKv E)) (hd : H D = some (.dK kvs)) : Rp K H (.ref D) (sD (sortsE E)) := by
  have k := h.rp
  rw [List.map_map] at k
  exact .dic hd k
theorem KvT.hD {kvs : List (Key × V)} {E : Ew} {D : Addr} (h : KvT K H kvs (hKv E)) (hd : H D = some (.dK kvs)) : Rp K H (.ref D) (hD (heavyE E)) := by
  have k := h.rp
  rw [List.map_map] at k
  exact .dic hd k
theorem KvT.low {kvs : List (Key × V)} {l : List (Str × PyData)} (h : KvT K H kvs l) (hl : l.length ≤ 1000) : kvs.length < sizeLine := by
  rw [KvT.length h.rp]
  exact small1000 hl
end
structure AInv (K : PySem.W.Frag) (H0 : Hp) (E : Ew) (a D1 D2 : Addr) (xs : List V) (i : Nat) (σ : L2.St) (H : Hp) : Prop where
  same : Same H0 H
  row : H a = some (.lst xs)
  rows : RpAll K H xs ((E.map En.r).map rowD)
  d1 : ∃ kvs, H D1 = some (.dK kvs) ∧ KvT K H kvs (sKv (E.take i))
  d2 : ∃ kvs, H D2 = some (.dK kvs) ∧ KvT K H kvs (hKv (E.take i))
  n1 : H0 D1 = none
  n2 : H0 D2 = none
  n3 : D1 ≠ D2
  env : ∃ n m, σ = [some (.ref a), some (.ref D1), some (.ref D2), none, n, m]
section
variable {P : Program} {w : World} {K : PySem.W.Frag} {mg : Str → Option Value} {base : Heap}
theorem raw_anew (F : Fx w K mg) (TP : NTab w K mg "PLACES" nPLACES) (TL : NTab w K mg "LINES" nLINES) (f : Addr) (cdv : Value) (A : Around) (outer : List Env) (s : Shared) (H : Hp) (E : XK) (hr : Room 9 (A.deeper (envOfC "anew" (defScope s_anew) s.heap.objs.size f cdv))) : ∃ t, PSs (bodyX P w K mg base N_anew "anew" s_anew f cdv A outer s H E) (defBody s_anew) t ∧
      ∀ (H : Hp) (vs : List V) (ds : List PyData) (Q : VK), RpAll K H vs ds → ds.length = 1 → c_anew ds (wV K H Q) → t { nx := fun _ H' => Q .non H', rt := Q } (L2.start N_anew vs) H := by
  refine ⟨_, pss_cons (ps_set (i := 1) sc_anew.nd rfl (Or.inl rfl) pe_dnewK)
    (pss_cons (ps_set (i := 2) sc_anew.nd rfl (Or.inl rfl) pe_dnewK)
    (pss_cons (ps_for PassesOwn.never rfl (pi_list (pe_var (i := 0) rfl (Or.inl rfl)))
      (pg_tup rfl (pgs_cons (pg_name (i := 4) sc_anew.nd rfl (Or.inl rfl)) (pgs_cons (pg_name (i := 5) sc_anew.nd rfl (Or.inl rfl)) pgs_nil)))
      (pss_cons (ps_dput (hu_of hr) (pe_var (i := 2) rfl (Or.inl rfl)) (pe_var (i := 4) rfl (Or.inl rfl)) (PD.run (pd_call (H_admitted F) (hr.mono (by decide)) rfl (pda_cons (dv 1) (pda_cons (dv 2) (pda_cons (dv 4) (pda_cons (dv 5) pda_nil)))))) rfl)
        (pss_one (ps_dput (hu_of hr) (pe_var (i := 1) rfl (Or.inl rfl)) (pe_var (i := 4) rfl (Or.inl rfl)) (PD.run (pd_call (H_sort_of F) (hr.mono (by decide)) rfl (pda_cons (dv 5) pda_nil))) rfl))))
    (pss_cons (ps_set (i := 3) sc_anew.nd rfl (Or.inr rfl) (PD.run (pd_call (H_tellings_of F TP TL) hr rfl (pda_cons (dv 0) pda_nil))))
    (pss_one (ps_ret (pe_lc (g := gTup K 2 (gCons (gName 4) (gCons (gName 5) gNil))) (te := tLockE (lE K (dOp gDGet (dVar 3) (dVar 4)))) (own := [("name", 4), ("making", 5)]) rfl sc_anew.nd (pi_list (pe_var (i := 0) rfl (Or.inl rfl))) (blkOk_by (own := [("name", 4), ("making", 5)]) (N := N_anew) (sc := defScope s_anew) (by decide +kernel))
      (fun _ _ _ _ _ => pg_tup rfl (pgs_cons (pg_name (i := 4) sc_anew.nd rfl (Or.inl rfl) (.inr rfl)) (pgs_cons (pg_name (i := 5) sc_anew.nd rfl (Or.inl rfl) (.inr rfl)) pgs_nil)))
      (fun _ _ _ _ _ => pts_nil) (fun _ _ _ _ _ => pe_lock (PD.run (t := dOp gDGet (dVar 3) (dVar 4)) (pd_dget (hu_of hr) (dv 3) (dv 4)))) (by intro _; rfl))))))), ?_⟩
  intro H vs ds Q r l ⟨E, A, e, T, hQ⟩
  subst e
  cases r with
  | cons r1 t =>
  cases t
  obtain ⟨a, xs, rfl, ha, rx⟩ := r1.lst_inv
  intro D1 h1
  intro D2 h2
  have ne12 : D1 ≠ D2 := fun z => by subst z; rw [upd_same] at h2; cases h2
  have h2' : H D2 = none := by rw [upd_ne (Ne.symm ne12)] at h2; exact h2
  have s1 : Same H (upd H D1 (.dK [])) := same_upd h1
  have s2 : Same (upd H D1 (.dK [])) (upd (upd H D1 (.dK [])) D2 (.dK [])) := same_upd h2
  have s12 := s1.trans s2
  have h16 := T.fineLen
  have hlen : xs.length = E.length := by rw [rx.length, List.length_map, List.length_map]
  refine ⟨_, rfl, a, rfl, ⟨xs, SqL.of (s12 _ _ ha)⟩, ?_⟩
  refine for_list (K := K) (xs := xs) (AInv K H E a D1 D2 xs) ?_ (fun i σ H' _ p => SqL.of p.row) ?_ ?_
  · exact ⟨s12, s12 _ _ ha, rx.mono s12, ⟨[], by rw [upd_ne ne12, upd_same], .nil, by simp [sortsE]⟩, ⟨[], upd_same, .nil, by simp [heavyE]⟩, h1, h2', ne12, none, none, rfl⟩
  · intro i x σ H1 hx p
    have hi : i < E.length := by
      have := (List.getElem?_eq_some_iff.mp hx).1
      omega
    obtain ⟨e, t, S⟩ := T.at i hi
    have hEi : (E.take i).length = i := by rw [List.length_take]; omega
    obtain ⟨d, hd, rd⟩ := p.rows.get' hx
    rw [List.map_map, List.getElem?_map, S.e] at hd
    cases hd
    obtain ⟨b, ys, rfl, sb, rb⟩ := rd.tup_inv
    obtain ⟨n0, m0, rfl⟩ := p.env
    cases rb with
    | cons rn rb =>
    cases rb with
    | cons rm rb =>
    cases rb
    have en := rn.str_inv
    subst en
    rename_i vm
    obtain ⟨kv1, hd1, kt1⟩ := p.d1
    obtain ⟨kv2, hd2, kt2⟩ := p.d2
    obtain ⟨c, h, W, hw, hp⟩ := S.fine.wgt
    have en : e.n = nm i := T.nm S.e
    have nw := S.ok.newS (k := i) (by omega) (by omega)
    refine ⟨b, _, rfl, sb, rfl, _, _, rfl, _, _, rfl, rfl, ?_⟩
    refine ⟨[none, some (sD (sortsE (E.take i))), some (hD (heavyE (E.take i))), none, some (.str (nm i)), some (mkD e.m)], env_none (env_some (kt1.sD hd1) (env_some (kt2.hD hd2) (env_none (env_some (by rw [← en]; exact .str _) (env_some rm env_nil))))), _, _, i, e.m, c, h, rfl, by omega, nw.1, S.fine.fits, S.fine.far, W, by rw [hw]; exact S.fine.le, fun v H3 s3 r3 => ?_⟩
    have hd1' := s3 _ _ hd1
    have hd2' := s3 _ _ hd2
    have l1 := kt1.low (by rw [List.length_map]; unfold sortsE; rw [List.length_map]; omega)
    have l2 := kt2.low (by rw [List.length_map]; unfold heavyE; rw [List.length_map]; omega)
    refine ⟨_, rfl, _, rfl, D2, _, rfl, DPut.k (k := .inr e.n) hd2' l2, ?_⟩
    have t34 : SameT K H3 (upd H3 D2 (.dK (putK kv2 (.inr e.n) v))) := SameT.updK hd2'
    have t14 := (SameT.of s3).trans t34
    refine ⟨[none, none, none, none, none, some (mkD e.m)], env_none (env_none (env_none (env_none (env_none (env_some (rm.tups t14 (tupO_mk _)) env_nil))))), e.m, rfl, fun u H5 s5 r5 => ?_⟩
    have hd1'' : H5 D1 = some (.dK kv1) := s5 _ _ (by rw [upd_ne p.n3]; exact hd1')
    refine ⟨_, rfl, _, rfl, D1, _, rfl, DPut.k (k := .inr e.n) hd1'' l1, ?_⟩
    have t56 : SameT K H5 (upd H5 D1 (.dK (putK kv1 (.inr e.n) u))) := SameT.updK hd1''
    have t16 := (t14.trans (SameT.of s5)).trans t56
    have a1 : a ≠ D1 := fun z => by have := p.row; rw [z, hd1] at this; cases this
    have a2 : a ≠ D2 := fun z => by have := p.row; rw [z, hd2] at this; cases this
    have ti := take_snoc S.e
    refine ⟨fun c o hc => ?_, ?_, p.rows.tups t16 (tupOs_rows _), ⟨_, upd_same, ?_⟩, ⟨_, by rw [upd_ne (Ne.symm p.n3)]; exact s5 _ _ upd_same, ?_⟩, p.n1, p.n2, p.n3, _, _, rfl⟩
    · have c1 : c ≠ D1 := fun z => by rw [z, p.n1] at hc; cases hc
      have c2 : c ≠ D2 := fun z => by rw [z, p.n2] at hc; cases hc
      rw [upd_ne c1]
      refine s5 _ _ ?_
      rw [upd_ne c2]
      exact s3 _ _ (p.same _ _ hc)
    · rw [upd_ne a1]
      refine s5 _ _ ?_
      rw [upd_ne a2]
      exact s3 _ _ p.row
    · rw [ti, sKv_snoc]
      refine KvT.mono (KvT.put (kt1.mono (t14.trans (SameT.of s5))) ?_ r5 rfl) t56
      rw [look_map, en, nw.1]
      rfl
    · rw [ti, hKv_snoc]
      rw [hw] at r3
      refine KvT.mono (KvT.put (kt2.mono (SameT.of s3)) ?_ r3 rfl) ((t34.trans (SameT.of s5)).trans t56)
      rw [look_map, en, nw.2.1]
      rfl
  · intro σ H1 p
    obtain ⟨n0, m0, rfl⟩ := p.env
    refine ⟨[some (.list ((E.map En.r).map rowD)), none, none, none, none, none], env_some (.lst p.row p.rows) (env_none (env_none (env_none (env_none (env_none env_nil))))), E.map En.r, A, rfl, T.steps, fun v H2 s2' r2 => ?_⟩
    have rows2 := p.rows.mono s2'
    refine ⟨_, rfl, a, rfl, ⟨xs, SqL.of (s2' _ _ p.row)⟩, fun D hD => ?_⟩
    refine lc_list (K := K) (xs := xs) (fun i H' => ∃ acc, Same H2 H' ∧ H' D = some (.lst acc) ∧ RpAll K H' acc ((A.take i).map fun x => tlD x.2)) ⟨[], same_upd hD, upd_same, .nil⟩ (fun i H' _ ⟨_, s, _⟩ => SqL.of (s _ _ (s2' _ _ p.row))) ?_ ?_
    · intro i x H3 hx ⟨acc, s3, hacc, racc⟩
      have hi : i < E.length := by
        have := (List.getElem?_eq_some_iff.mp hx).1
        omega
      obtain ⟨e, t, S⟩ := T.at i hi
      obtain ⟨d, hd, rd⟩ := rows2.get' hx
      rw [List.map_map, List.getElem?_map, S.e] at hd
      cases hd
      obtain ⟨b, ys, rfl, sb, rb⟩ := rd.tup_inv
      cases rb with
      | cons rn rb =>
      cases rb with
      | cons rm rb =>
      cases rb
      have en := rn.str_inv
      subst en
      refine ⟨b, _, rfl, Same.seqT s3 sb, rfl, _, _, rfl, _, _, rfl, rfl, rfl, ?_⟩
      unfold tYes
      dsimp only
      rw [if_pos rfl]
      refine ⟨D, _, hacc, trivial, fun od => ?_⟩
      have fz : Same H2 (upd H3 D (.frz od (.lst acc))) := fun b o e => by
        rw [upd_ne (ne_of_none e hD)]
        exact s3 _ _ e
      have hlk : look A e.n = some t := by
        have ta : A = A.take i ++ A.drop i := (List.take_append_drop i A).symm
        rw [ta, look_append, T.nm S.e, (S.ok.newS (k := i) (by rw [List.length_take]; omega) (by omega)).2.2, drop_cons S.a, ← T.nm S.e]
        show (if e.n = e.n then some t else _) = some t
        rw [if_pos rfl]
      refine ⟨[none, none, none, some (atD A), some (.str e.n), none], env_none (env_none (env_none (env_some (r2.mono fz) (env_some (.str _) (env_none env_nil))))), gDGet_kv hlk fun y H4 s4 r4 => ?_⟩
      have hD4 : H4 D = some (.frz od (.lst acc)) := s4 _ _ upd_same
      have tt : SameT K H4 (upd (upd H4 D (.lst acc)) D (.lst (acc ++ [y]))) := (SameT.updF hD4).trans (SameT.updL upd_same)
      have tf : SameT K H3 (upd (upd H4 D (.lst acc)) D (.lst (acc ++ [y]))) := ((SameT.updL hacc).trans (SameT.of s4)).trans tt
      refine ⟨hD4, acc, upd_same, ?_, acc ++ [y], fun b o e => ?_, upd_same, ?_⟩
      · rw [racc.length, List.length_map, List.length_take]
        have := T.len
        exact small1000 (by omega)
      · rw [upd_ne (ne_of_none e hD), upd_ne (ne_of_none e hD)]
        exact s4 _ _ (fz _ _ e)
      · rw [take_snoc S.a, List.map_append]
        have := tupOs_tls (A.take i)
        exact RpAll.snoc (racc.tups tf this) (r4.tups tt (tupO_tl t))
    · intro H3 ⟨acc, s3, hacc, racc⟩
      have e : A.take xs.length = A := List.take_of_length_le (by rw [hlen, T.len]; exact Nat.le_refl _)
      rw [e] at racc
      exact wV.at hQ ((p.same.trans s2').trans s3) (.lst hacc racc)
theorem H_anew (F : Fx w K mg) (TP : NTab w K mg "PLACES" nPLACES) (TL : NTab w K mg "LINES" nLINES) : Has P w K mg base 10 "anew" 1 c_anew :=
  has_raw F.d_anew sc_anew rfl (fun _ _ _ _ _ _ us hl => match us, hl with | [_], _ => rfl) mo_anew (fun f cdv A outer s H E hr => raw_anew F TP TL f cdv A outer s H E hr)
end
end Mb
set_option Elab.async false
set_option linter.all false
set_option maxRecDepth 100000
set_option maxHeartbeats 4000000
namespace Mb
open PySem PySem.Spec PyProof.Rows L2
/-! ### _law_holds -/
def shD (E : Ew) (A : At) : List PyData := List.zipWith (fun (e : En) (a : Str × Tl) => PyData.tuple [.str e.n, mkD e.m, tlD a.2]) E A
def c_law_holds : Ct := fun ds Q => ∃ E A, ds = [.list (shD E A)] ∧ TOk E A ∧ Q (.bool true)
theorem mo_law_holds : MoC c_law_holds := fun ds P P' m ⟨E, A, h1, h2, h3⟩ => ⟨E, A, h1, h2, m _ h3⟩
theorem shD_len {E : Ew} {A : At} (T : TOk E A) : (shD E A).length = E.length := by
  unfold shD
  rw [List.length_zipWith, T.len]
  omega
theorem shD_get {E : Ew} {A : At} {i : Nat} {e : En} {t : Tl} (p : Pt E A i e t) : (shD E A)[i]? = some (.tuple [.str e.n, mkD e.m, tlD t]) := by
  unfold shD
  rw [List.getElem?_zipWith, p.e, p.a]
theorem tupOs_sh : ∀ (E : Ew) (A : At), tupOs (shD E A) = true
  | [], _ => rfl
  | _ :: _, [] => rfl
  | e :: E, a :: A => by
    show ((true && (tupO (mkD e.m) && (tupO (tlD a.2) && true))) && tupOs (shD E A)) = true
    rw [tupO_mk, tupO_tl, tupOs_sh E A]
    rfl
theorem nm_lay : ∀ j, j < 16 → PyData.strOk (nm j) = true := by decide +kernel
theorem shaped_gone {j : Nat} {b : Str} (hj : j < 16) (hb : WordOk b) : SeqAt.shaped (tlD (.gone (nm j) b)) = true := shaped_tl (.gone (nm j) b) fun n w e => by
  injection e with e1 e2
  subst e1 e2
  exact ⟨nm_lay j hj, hb.2⟩
theorem eqv_gone (a b : Str) : PyData.eqv (tlD (.gone a b)) (tlD (.gone a b)) = true := by
  show (("gone" : Str) == "gone" && (a == a && (b == b && true))) = true
  simp
theorem ne_gone {j : Nat} {b : Str} (hj : j < 16) (hb : WordOk b) {P : Bool → Prop} (h : P false) : cNe (tlD (.gone (nm j) b)) (tlD (.gone (nm j) b)) P := by
  refine ⟨⟨shaped_gone hj hb, shaped_gone hj hb⟩, ?_⟩
  show P (!PyData.eqv (tlD (.gone (nm j) b)) (tlD (.gone (nm j) b)))
  rw [eqv_gone]
  exact h
section
variable {X : Cx} {elt iter : Expr} {scope : Scope} {x y : Str} {px pos spos py : Pos} {src te : TD} {tt : TDT} {ifs : List Expr} {i j : Nat}
/-- x = [.. for y in .. if ..], the slots as they are -/
theorem ps_setLcL' (hc : X.calm = true) (hN : X.N.Nodup) (ok : BlkOk X.N X.env.scope scope [(x, j)]) (hg : Blk X scope fun Y => PG Y (.Name x px) (gName j)) (ht : Blk X scope fun Y => PDTs Y ifs tt) (he : Blk X scope fun Y => PD Y elt te)
    (hi : PD X iter src) (hsw : swapsWith (.ListComp elt [⟨.Name x px, iter, ifs, 0⟩] scope pos) (some (.Name y py)) spos.line X.env = pure true) (hy : X.N[i]? = some y := by rfl) (hyl : X.env.scope.names.lookup y = some .local := by rfl) (hs : ∀ x, foldedSetIterable iter X.env x = pure x := by intro _; rfl) :
    PS X (.Assign [.Name y py] (.ListComp elt [⟨.Name x px, iter, ifs, 0⟩] scope pos) spos) (fun D σ H => lE X.K (dLcL j src tt te) σ H fun v H' => D.nx (σ.set i (some v)) H') :=
  have me := blk_mo he X.s_0 X.H_0
  have mt := blk_mt ht X.s_0 X.H_0
  PS.imp (ps_setLc (own := [(x, j)]) hc hN hy hyl hsw (pi_list hi.run) ok hg (fun s H C cl fp => (ht s H C cl fp).run) (fun s H C cl fp => pe_lock (he s H C cl fp).run) hs) fun D σ H q => lcL_lift hi mt me σ H _ q
end
structure HInv (K : PySem.W.Frag) (H0 : Hp) (E : Ew) (A : At) (a D1 D2 : Addr) (xs : List V) (i : Nat) (σ : L2.St) (H : Hp) : Prop where
  same : Same H0 H
  row : H a = some (.lst xs)
  rows : RpAll K H xs (shD E A)
  d1 : ∃ kvs, H D1 = some (.dK kvs) ∧ KvT K H kvs ((A.take i).map fun x => (x.1, tlD x.2))
  d2 : ∃ kvs, H D2 = some (.dK kvs) ∧ KvT K H kvs ((rankE (E.take i)).map fun x => (x.1, PyData.int x.2))
  n1 : H0 D1 = none
  n2 : H0 D2 = none
  n3 : D1 ≠ D2
  env : ∃ k g n m t d o u, σ = [some (.ref a), some (.ref D1), some (.ref D2), k, g, n, m, t, d, o, u]
theorem rankE_snoc {E : Ew} {e : En} : rankE (E ++ [e]) = rankE E ++ [(e.n, (E.length : Int))] := by
  unfold rankE
  rw [List.length_append, List.length_singleton, List.range_succ, List.map_append]
  congr 1
  · refine List.map_congr_left fun j hj => ?_
    rw [List.getElem?_append_left (List.mem_range.mp hj)]
  · show [((((E ++ [e])[E.length]?).map En.n).getD "", (E.length : Int))] = [_]
    rw [List.getElem?_append_right (Nat.le_refl _), Nat.sub_self]
    rfl
theorem atI_nat {α : Type} {l : List α} {i : Nat} (h : i < l.length) : atI l (i : Int) = l[i]? := by
  unfold atI ixN
  rw [if_pos (by omega), if_pos (by omega)]
  show l[((i : Nat) : Int).toNat]? = _
  rw [Int.toNat_natCast]
theorem Res.uniq {f : Str → Option Tl} {m : Mk} {r r' : Rm} (h : Res f m r) (g : Res f m r') : r = r' := by
  cases h <;> cases g <;> simp_all
theorem szs_facts {r : Rm} {w : Int} (h : RW r w.toNat) (hw : w ≤ 40) : SzFl r ∧ SzG 6000 r ∧ SzK 6000 r := ⟨h.szFl (by omega), h.szG (by omega), h.szK (by omega)⟩
theorem cNeS {a b : Str} {P : Bool → Prop} (h : P (!decide (a = b))) : cNe (.str a) (.str b) P := h
theorem cEqS {a b : Str} {P : Bool → Prop} (h : P (decide (a = b))) : cEq (.str a) (.str b) P := h
/-! an if of a block, its test in data -/
section
variable {K : PySem.W.Frag} {tc : TDT} {a b : TS} {D : Ends} {σ : L2.St} {H : Hp} {δ : Dn} {t u : TDT}
theorem tif_F (ok : EnvOk K H δ σ) (hc : ∀ P : Bool → Prop, P false → tc δ P) (h : ∀ H', Same H H' → b D σ H') : tIfS (lT K tc) a b D σ H := ⟨δ, ok, hc _ fun H' s => iteF (h H' s)⟩
theorem tif_T (ok : EnvOk K H δ σ) (hc : ∀ P : Bool → Prop, P true → tc δ P) (h : ∀ H', Same H H' → a D σ H') : tIfS (lT K tc) a b D σ H := ⟨δ, ok, hc _ fun H' s => iteT (h H' s)⟩
theorem and_F {P : Bool → Prop} (ht : ∀ P : Bool → Prop, P false → t δ P) (h : P false) : dAnd t u δ P := ht _ (iteF h)
theorem and_T {P : Bool → Prop} (ht : ∀ P : Bool → Prop, P true → t δ P) (h : u δ P) : dAnd t u δ P := ht _ (iteT h)
end
def putsT : TS := tSeq (sDPut (tVar 1) (tVar 5) (tVar 7)) (sDPut (tVar 2) (tVar 5) (tVar 3))
theorem puts_ok {K : PySem.W.Frag} {H0 : Hp} {E : Ew} {A : At} (T : TOk E A) {a D1 D2 : Addr} {xs : List V} {i : Nat} {σ : L2.St} {H : Hp} (p : HInv K H0 E A a D1 D2 xs i σ H) {e : En} {t : Tl} (S : Pt E A i e t) {H4 : Hp} (s : Same H H4) {vt : V} (rt : Rp K H4 vt (tlD t)) (D' : Ends) (hD : ∀ σ H, HInv K H0 E A a D1 D2 xs (i + 1) σ H → D'.nx σ H) (g m d o u : Option V) :
    putsT D' [some (.ref a), some (.ref D1), some (.ref D2), some (.int (0 + (i : Nat))), g, some (.str e.n), m, some vt, d, o, u] H4 := by
  have h16 := T.fineLen
  have hi : i < E.length := (List.getElem?_eq_some_iff.mp S.e).1
  have hEi : (E.take i).length = i := by rw [List.length_take]; omega
  have hAi : (A.take i).length = i := by rw [List.length_take, T.len]; omega
  have nw := S.ok.newS (k := i) (by omega) (by omega)
  have rn := rank_new S.ok (k := i) (by omega) (by omega)
  have en : e.n = nm i := T.nm S.e
  obtain ⟨kv1, hd1, kt1⟩ := p.d1
  obtain ⟨kv2, hd2, kt2⟩ := p.d2
  have hd1' := s _ _ hd1
  have hd2' := s _ _ hd2
  have l1 := kt1.low (by rw [List.length_map]; omega)
  have l2 := kt2.low (by rw [List.length_map]; unfold rankE; rw [List.length_map, List.length_range]; omega)
  have t34 : SameT K H4 (upd H4 D1 (.dK (putK kv1 (.inr e.n) vt))) := SameT.updK hd1'
  have hd2'' : upd H4 D1 (.dK (putK kv1 (.inr e.n) vt)) D2 = some (.dK kv2) := by rw [upd_ne (Ne.symm p.n3)]; exact hd2'
  have t45 : SameT K (upd H4 D1 (.dK (putK kv1 (.inr e.n) vt))) (upd (upd H4 D1 (.dK (putK kv1 (.inr e.n) vt))) D2 (.dK (putK kv2 (.inr e.n) (.int (0 + (i : Nat)))))) := SameT.updK hd2''
  have t35 := t34.trans t45
  have t15 := (SameT.of s).trans t35
  have a1 : a ≠ D1 := fun z => by have := p.row; rw [z, hd1] at this; cases this
  have a2 : a ≠ D2 := fun z => by have := p.row; rw [z, hd2] at this; cases this
  refine ⟨_, rfl, _, rfl, _, rfl, D1, _, rfl, DPut.k (k := .inr e.n) hd1' l1, ?_⟩
  refine ⟨_, rfl, _, rfl, _, rfl, D2, _, rfl, DPut.k (k := .inr e.n) hd2'' l2, ?_⟩
  refine hD _ _ ⟨fun c o hc => ?_, ?_, p.rows.tups t15 (tupOs_sh E A), ⟨_, by rw [upd_ne p.n3]; exact upd_same, ?_⟩, ⟨_, upd_same, ?_⟩, p.n1, p.n2, p.n3, _, _, _, _, _, _, _, _, rfl⟩
  · have c1 : c ≠ D1 := fun z => by rw [z, p.n1] at hc; cases hc
    have c2 : c ≠ D2 := fun z => by rw [z, p.n2] at hc; cases hc
    rw [upd_ne c2, upd_ne c1]
    exact s _ _ (p.same _ _ hc)
  · rw [upd_ne a2, upd_ne a1]
    exact s _ _ p.row
  · rw [take_snoc S.a, List.map_append]
    refine KvT.mono (KvT.put (kt1.mono (SameT.of s)) ?_ rt (tupO_tl t)) t35
    rw [look_map, en, nw.2.2]
    rfl
  · rw [take_snoc S.e, rankE_snoc, List.map_append, hEi]
    refine KvT.mono (KvT.put (kt2.mono (SameT.of s)) ?_ (by rw [Int.zero_add]; exact .int _) rfl) t35
    rw [look_map, en, rn]
    rfl
section
variable {P : Program} {w : World} {K : PySem.W.Frag} {mg : Str → Option Value} {base : Heap}
theorem raw_holds (F : Fx w K mg) (f : Addr) (cdv : Value) (A : Around) (outer : List Env) (s : Shared) (H : Hp) (E : XK) (hr : Room 8 (A.deeper (envOfC "_law_holds" (defScope s_law_holds) s.heap.objs.size f cdv))) : ∃ t, PSs (bodyX P w K mg base N_law_holds "_law_holds" s_law_holds f cdv A outer s H E) (defBody s_law_holds) t ∧
      ∀ (H : Hp) (vs : List V) (ds : List PyData) (Q : VK), RpAll K H vs ds → ds.length = 1 → c_law_holds ds (wV K H Q) → t { nx := fun _ H' => Q .non H', rt := Q } (L2.start N_law_holds vs) H := by
  refine ⟨_, pss_cons (ps_set (i := 1) sc_law_holds.nd rfl (Or.inr rfl) pe_dnewK)
    (pss_cons (ps_set (i := 2) sc_law_holds.nd rfl (Or.inl rfl) pe_dnewK)
    (pss_cons (ps_for PassesOwn.never rfl (pi_range1 rfl F.m_range (pa_cons (PD.run (pd_callB call_lenA lk_len gLen_mo rfl F.m_len boot_len (dv 0))) pa_nil))
      (pg_name (i := 3) sc_law_holds.nd rfl (Or.inl rfl))
      (pss_cons (ps_asg (PD.run (pd_ix ix_tl lk_ix gIx_mo (dv 0) (dv 3))) (pg_tup rfl (pgs_cons (pg_name (i := 5) sc_law_holds.nd rfl (Or.inl rfl)) (pgs_cons (pg_name (i := 6) sc_law_holds.nd rfl (Or.inl rfl)) (pgs_cons (pg_name (i := 7) sc_law_holds.nd rfl (Or.inl rfl)) pgs_nil)))))
      (pss_cons (ps_setLcL' (i := 4) (j := 9) rfl sc_law_holds.nd (blkOk_by (own := [("_law_one", 9)]) (N := N_law_holds) (sc := defScope s_law_holds) (by decide +kernel)) (fun _ _ _ _ _ => pg_name (i := 9) sc_law_holds.nd rfl (Or.inl rfl)) (fun _ _ _ _ _ => (pdts_one (ptd_cmp (op_eqA hr.units) lk_eq cEq_mo (pd_ix ix_tl lk_ix gIx_mo (pd_dget (hu_of hr) (dv 1) (dv 9)) pd_int) pd_str (nomark _)))) (fun _ _ _ _ _ => (pd_dget (hu_of hr) (dv 1) (dv 9))) (pd_call (H_law_grounds F) (hr.mono (by decide)) rfl (pda_cons (dv 6) pda_nil)) (sw_true rfl rfl rfl (by decide +kernel)))
      (pss_cons (ps_if (PDT.run (ptd_cmp op_gt lk_int cInt_mo (pd_callB call_lenA lk_len gLen_mo rfl F.m_len boot_len (dv 4)) pd_int (nomark _)))
          (pss_cons (ps_set (i := 8) sc_law_holds.nd rfl (Or.inl rfl) (PD.run (pd_ix ix_tl lk_ix gIx_mo (dv 4) pd_int)))
          (pss_cons (ps_for PassesOwn.never rfl (pi_list (pe_var (i := 4) rfl (Or.inl rfl))) (pg_name (i := 9) sc_law_holds.nd rfl (Or.inl rfl))
            (pss_one (ps_if (PDT.run (ptd_cmp op_lt lk_int cInt_mo (pd_dget (hu_of hr) (dv 2) (pd_ix ix_tl lk_ix gIx_mo (dv 9) pd_int)) (pd_dget (hu_of hr) (dv 2) (pd_ix ix_tl lk_ix gIx_mo (dv 8) pd_int)) (nomark _))) (pss_one (ps_set (i := 8) sc_law_holds.nd rfl (Or.inl rfl) (pe_var (i := 9) rfl (Or.inl rfl)))) pss_nil)))
          (pss_one (ps_if (PDT.run (ptd_cmp (op_neA hr.units) lk_ne cNe_mo (dv 7) (dv 8) (nomark _))) (pss_one (ps_ret (PD.run pd_bl))) pss_nil))))
          (pss_cons (ps_set (i := 10) sc_law_holds.nd rfl (Or.inl rfl) (PD.run (pd_call (H_law_fail F) (hr.mono (by decide)) rfl (pda_cons (dv 6) (pda_cons (dv 1) pda_nil)))))
          (pss_cons (ps_if (PDT.run (PDW.pt (pdw_and (ptd_cmp (op_neA hr.units) lk_ne cNe_mo (dv 10) pd_str (nomark _)) (pdw_and1 (ptd_cmp (op_neA hr.units) lk_ne cNe_mo (dv 7) (pd_tup (pda_cons pd_str (pda_cons (dv 5) (pda_cons (dv 10) pda_nil)))) (nomark _)))))) (pss_one (ps_ret (PD.run pd_bl))) pss_nil)
          (pss_one (ps_if (PDT.run (PDW.pt (pdw_and (ptd_cmp (op_eqA hr.units) lk_eq cEq_mo (dv 10) pd_str (nomark _)) (pdw_and1 (ptd_not (ptd_val (pd_call (H_law_fits F) (hr.mono (by decide)) rfl (pda_cons (dv 6) (pda_cons (dv 7) (pda_cons (dv 1) pda_nil)))))))))) (pss_one (ps_ret (PD.run pd_bl))) pss_nil)))))
      (pss_cons (ps_dput (hu_of hr) (pe_var (i := 1) rfl (Or.inr (Or.inl rfl))) (pe_var (i := 5) rfl (Or.inl rfl)) (pe_var (i := 7) rfl (Or.inl rfl)) rfl)
        (pss_one (ps_dput (hu_of hr) (pe_var (i := 2) rfl (Or.inl rfl)) (pe_var (i := 5) rfl (Or.inl rfl)) (pe_var (i := 3) rfl (Or.inl rfl)) rfl)))))))
    (pss_one (ps_ret (PD.run pd_bl))))), ?_⟩
  intro H vs ds Q r l ⟨E, A, e, T, hQ⟩
  subst e
  cases r with
  | cons r1 t =>
  cases t
  obtain ⟨a, xs, rfl, ha, rx⟩ := r1.lst_inv
  intro D1 h1
  intro D2 h2
  have ne12 : D1 ≠ D2 := fun z => by subst z; rw [upd_same] at h2; cases h2
  have h2' : H D2 = none := by rw [upd_ne (Ne.symm ne12)] at h2; exact h2
  have s1 : Same H (upd H D1 (.dK [])) := same_upd h1
  have s2 : Same (upd H D1 (.dK [])) (upd (upd H D1 (.dK [])) D2 (.dK [])) := same_upd h2
  have s12 := s1.trans s2
  have h16 := T.fineLen
  have hlen : xs.length = E.length := by rw [rx.length, shD_len T]
  refine ⟨[some (.list (shD E A)), none, none, none, none, none, none, none, none, none, none], env_some (.lst (s12 _ _ ha) (rx.mono s12)) (env_none (env_none (env_none (env_none (env_none (env_none (env_none (env_none (env_none (env_none env_nil)))))))))), fun v H1 s3 r3 => ?_⟩
  rw [shD_len T] at r3
  have ev := r3.int_inv
  subst ev
  refine ⟨_, rfl, by omega, by omega, ?_⟩
  have s13 := s12.trans s3
  refine for_range (lo := 0) (HInv K H E A a D1 D2 xs) ?_ ?_ ?_
  · exact ⟨s13, s13 _ _ ha, rx.mono s13, ⟨[], s3 _ _ (by rw [upd_ne ne12, upd_same]), .nil, by simp⟩, ⟨[], s3 _ _ upd_same, .nil, by simp [rankE]⟩, h1, h2', ne12, none, none, none, none, none, none, none, none, rfl⟩
  · intro i σ H1 hi p
    have hi : i < E.length := by omega
    obtain ⟨e, t, S⟩ := T.at i hi
    have hEi : (E.take i).length = i := by rw [List.length_take]; omega
    obtain ⟨k0, g0, n0, m0, t0, d0, o0, u0, rfl⟩ := p.env
    obtain ⟨kv1, hd1, kt1⟩ := p.d1
    obtain ⟨kv2, hd2, kt2⟩ := p.d2
    refine ⟨[some (.list (shD E A)), none, none, some (.int (i : Nat)), none, none, none, none, none, none, none], env_some (.lst p.row p.rows) (env_none (env_none (env_some (by rw [Int.zero_add]; exact .int _) (env_none (env_none (env_none (env_none (env_none (env_none (env_none env_nil)))))))))), ?_⟩
    show optK (atI (shD E A) (i : Int)) _
    rw [atI_nat (by rw [shD_len T]; exact hi), shD_get S]
    intro v H2 s2 r2
    obtain ⟨b, ys, rfl, sb, rb⟩ := r2.tup_inv
    cases rb with
    | cons rn rb =>
    cases rb with
    | cons rm rb =>
    cases rb with
    | cons rt rb =>
    cases rb
    have en := rn.str_inv
    subst en
    rename_i vm vt
    refine ⟨b, _, rfl, sb, rfl, _, _, rfl, _, _, rfl, _, _, rfl, rfl, ?_⟩
    have rA : ∀ {H'}, Same H1 H' → Rp K H' (.ref D1) (atD (A.take i)) := fun {H'} s' => by
      have k := (kt1.mono (SameT.of s')).rp
      rw [List.map_map] at k
      exact .dic (s' _ _ hd1) k
    have rR : ∀ {H'}, Same H1 H' → Rp K H' (.ref D2) (rankD (rankE (E.take i))) := fun {H'} s' => by
      have k := (kt2.mono (SameT.of s')).rp
      rw [List.map_map] at k
      exact .dic (s' _ _ hd2) k
    refine ⟨[none, some (atD (A.take i)), none, none, none, none, some (mkD e.m), none, none, none, none], env_none (env_some (rA s2) (env_none (env_none (env_none (env_none (env_some rm (env_none (env_none (env_none (env_none env_nil)))))))))), e.m, rfl, ?_⟩
    refine compR_gone (A := A.take i) (i := 9) (j := 1) (δ := [none, some (atD (A.take i)), none, none, none, none, some (mkD e.m), none, none, none, none]) rfl (by decide) (by show 9 < 11; decide) e.m.gr [] (S.ok.gr S.fine) (by have := gr_len e.m; simp; omega) ?_
    intro v H3 s3 r3
    rw [List.nil_append] at r3
    obtain ⟨G, zs, rfl, hG, rz⟩ := r3.lst_inv
    have s13 := s2.trans s3
    obtain ⟨g, hg, ht⟩ := S.ex
    unfold Tells at ht
    cases q : goneL (A.take i) e.m.gr with
    | nil =>
      rw [q] at ht rz r3
      obtain ⟨r, h1, h2, et⟩ := ht
      obtain ⟨r', h1', hw⟩ := res_of S.ok S.fine q
      have er := h1.uniq h1'
      subst er
      obtain ⟨z1, z2, z3⟩ := szs_facts hw S.fine.le
      refine tif_F (δ := [none, none, none, none, some (.list []), none, none, none, none, none, none]) (env_none (env_none (env_none (env_none (env_some r3 (env_none (env_none (env_none (env_none (env_none (env_none env_nil))))))))))) (fun P h => h) fun H4 s4 => ?_
      have s14 := s13.trans s4
      refine ⟨[none, some (atD (A.take i)), none, none, none, none, some (mkD e.m), none, none, none, none], env_none (env_some (rA s14) (env_none (env_none (env_none (env_none (env_some (rm.mono (s3.trans s4)) (env_none (env_none (env_none (env_none env_nil)))))))))), e.m, A.take i, r, rfl, h1, z1, fun v H5 s5 r5 => ?_⟩
      have ev := r5.str_inv
      subst ev
      have s15 := s14.trans s5
      cases er : made r with
      | fails w =>
        have wo := fails_ok er
        have en : e.n = nm i := T.nm S.e
        rw [er] at et r5
        dsimp only at et
        have et2 : t = .gone (nm i) w := by rw [et, en]
        refine tif_F (δ := [none, none, none, none, none, some (.str (nm i)), none, some (tlD (.gone (nm i) w)), none, none, some (.str w)]) (env_none (env_none (env_none (env_none (env_none (env_some (by rw [← en]; exact .str _) (env_none (env_some (by rw [← et2]; exact rt.mono ((s3.trans s4).trans s5)) (env_none (env_none (env_some r5 env_nil))))))))))) (fun P h => and_T (fun P h => cNeS (by rw [decide_eq_false wo.1]; exact h)) (ne_gone (by omega) wo h)) fun H6 s6 => ?_
        refine tif_F (δ := [none, none, none, none, none, none, none, none, none, none, some (.str w)]) (env_none (env_none (env_none (env_none (env_none (env_none (env_none (env_none (env_none (env_none (env_some (.str _) env_nil))))))))))) (fun P h => and_F (fun P h => cEqS (by rw [decide_eq_false wo.1]; exact h)) h) fun H7 s7 => ?_
        exact puts_ok T p S (((s15.trans s6).trans s7)) (rt.mono ((((s3.trans s4).trans s5).trans s6).trans s7)) _ (fun σ H h => h) _ _ _ _ _
      | ok t' =>
        rw [er] at et r5
        dsimp only at et
        subst et
        refine tif_F (δ := [none, none, none, none, none, none, none, none, none, none, some (.str "")]) (env_none (env_none (env_none (env_none (env_none (env_none (env_none (env_none (env_none (env_none (env_some r5 env_nil))))))))))) (fun P h => and_F (fun P h => cNeS (by rw [decide_eq_true rfl]; exact h)) h) fun H6 s6 => ?_
        refine tif_F (δ := [none, some (atD (A.take i)), none, none, none, none, some (mkD e.m), some (tlD t), none, none, some (.str "")]) (env_none (env_some (rA (s15.trans s6)) (env_none (env_none (env_none (env_none (env_some (rm.mono (((s3.trans s4).trans s5).trans s6)) (env_some (rt.mono (((s3.trans s4).trans s5).trans s6)) (env_none (env_none (env_some (.str _) env_nil))))))))))) (fun P h => and_T (fun P h => cEqS (by rw [decide_eq_true rfl]; exact h)) ⟨e.m, A.take i, r, t, 6000, rfl, h1, er, z2, (made_WT hw er).szT (by have := S.fine.le; omega), z3, h⟩) fun H7 s7 => ?_
        exact puts_ok T p S (((s15.trans s6).trans s7)) (rt.mono ((((s3.trans s4).trans s5).trans s6).trans s7)) _ (fun σ H h => h) _ _ _ _ _
    | cons f l =>
      rw [q] at ht hg rz r3
      have ht : t = .gone (firstG g f (f :: l)).1 (firstG g f (f :: l)).2 := ht
      have r4 : ∀ {H'}, Same H3 H' → Rp K H' (.ref G) (.list ((f :: l).map goneD)) := fun s => r3.mono s
      refine tif_T (δ := [none, none, none, none, some (.list ((f :: l).map goneD)), none, none, none, none, none, none]) (env_none (env_none (env_none (env_none (env_some r3 (env_none (env_none (env_none (env_none (env_none (env_none env_nil))))))))))) (fun P h => ?_) fun H4 s4 => ?_
      · show P (decide ((0 : Int) < (((f :: l).map goneD).length : Nat)))
        rw [decide_eq_true (by simp)]
        exact h
      refine ⟨[none, none, none, none, some (.list ((f :: l).map goneD)), none, none, none, none, none, none], env_none (env_none (env_none (env_none (env_some (r4 s4) (env_none (env_none (env_none (env_none (env_none (env_none env_nil)))))))))), ?_⟩
      show optK (atI (goneD f :: l.map goneD) 0) _
      rw [atI_zero]
      intro v H5 s5 r5
      have s35 := s4.trans s5
      refine ⟨_, rfl, G, rfl, ⟨zs, SqL.of (s35 _ _ hG)⟩, ?_⟩
      refine for_list (K := K) (xs := zs) (fun j σ H' => Same H5 H' ∧ ∃ c v o u, σ = [some (.ref a), some (.ref D1), some (.ref D2), some (.int (0 + (i : Nat))), some (.ref G), some (.str e.n), some vm, some vt, some v, o, u] ∧ Rp K H' v (goneD c) ∧ look (rankE (E.take i)) c.1 = some (g c.1) ∧ firstG g c ((f :: l).drop j) = firstG g f (f :: l)) ⟨Same.refl _, f, v, o0, u0, rfl, r5, hg f (List.mem_cons_self ..), rfl⟩ (fun j σ H' _ p => SqL.of (p.1 _ _ (s35 _ _ hG))) ?_ ?_
      · rintro j x σ H6 hx ⟨s6, c, v, o, u, rfl, rc, hc, hf⟩
        obtain ⟨d, hd, rd⟩ := (rz.mono (s35.trans s6)).get' hx
        rw [List.getElem?_map] at hd
        cases hj : (f :: l)[j]? with
        | none => rw [hj] at hd; cases hd
        | some y =>
          rw [hj] at hd
          cases hd
          rw [drop_cons hj] at hf
          have hy := hg y (List.mem_of_getElem? hj)
          have ev : ∀ P : Bool → Prop, P (decide (g y.1 < g c.1)) → dCmpT (cInt fun i j => decide (i < j)) (dOp gDGet (dVar 2) (dOp gIx (dVar 9) (dC (.int 1)))) (dOp gDGet (dVar 2) (dOp gIx (dVar 8) (dC (.int 1)))) [none, none, some (rankD (rankE (E.take i))), none, none, none, none, none, some (goneD c), some (goneD y), none] P := fun P h => by
            show gDGet (rankD (rankE (E.take i))) (.str y.1) _
            refine gDGet_kv hy ?_
            show gDGet (rankD (rankE (E.take i))) (.str c.1) _
            refine gDGet_kv hc ?_
            exact h
          have env : EnvOk K H6 [none, none, some (rankD (rankE (E.take i))), none, none, none, none, none, some (goneD c), some (goneD y), none] [some (.ref a), some (.ref D1), some (.ref D2), some (.int (0 + (i : Nat))), some (.ref G), some (.str e.n), some vm, some vt, some v, some x, u] := env_none (env_none (env_some (rR ((s13.trans s35).trans s6)) (env_none (env_none (env_none (env_none (env_none (env_some rc (env_some rd (env_none env_nil))))))))))
          unfold firstG at hf
          by_cases q2 : g y.1 < g c.1
          · rw [if_pos q2] at hf
            refine tif_T env (fun P h => ev P (by rw [decide_eq_true q2]; exact h)) fun H7 s7 => ?_
            exact ⟨_, rfl, s6.trans s7, y, x, _, _, rfl, rd.mono s7, hy, hf⟩
          · rw [if_neg q2] at hf
            refine tif_F env (fun P h => ev P (by rw [decide_eq_false q2]; exact h)) fun H7 s7 => ?_
            exact ⟨s6.trans s7, c, v, _, _, rfl, rc.mono s7, hc, hf⟩
      · rintro σ H6 ⟨s6, c, v, o, u, rfl, rc, hc, hf⟩
        have hzl : zs.length = (f :: l).length := by rw [rz.length, List.length_map]
        rw [List.drop_eq_nil_of_le (by omega)] at hf
        have hf : c = firstG g f (f :: l) := hf
        rw [← hf] at ht
        have cm : c ∈ goneL (A.take i) e.m.gr := by
          rw [q, hf]
          rcases firstG_mem (g := g) (f :: l) f with h | h
          · rw [h]; exact List.mem_cons_self ..
          · exact h
        obtain ⟨j, hj, ex, wo⟩ := S.ok.gone_rank (by omega) S.fine c cm
        have et : tlD t = goneD c := by rw [ht]; rfl
        have ec : goneD c = tlD (.gone (nm j) c.2) := by rw [← ex]; rfl
        refine tif_F (δ := [none, none, none, none, none, none, none, some (tlD (.gone (nm j) c.2)), some (tlD (.gone (nm j) c.2)), none, none]) (env_none (env_none (env_none (env_none (env_none (env_none (env_none (env_some (by rw [← ec, ← et]; exact rt.mono ((s3.trans s35).trans s6)) (env_some (by rw [← ec]; exact rc) (env_none (env_none env_nil))))))))))) (fun P h => ne_gone (by omega) wo h) fun H7 s7 => ?_
        exact puts_ok T p S (((s13.trans s35).trans s6).trans s7) (rt.mono (((s3.trans s35).trans s6).trans s7)) _ (fun σ H h => h) _ _ _ _ _
  · intro σ H1 p
    obtain ⟨k0, g0, n0, m0, t0, d0, o0, u0, rfl⟩ := p.env
    exact ⟨[none, none, none, none, none, none, none, none, none, none, none], env_none (env_none (env_none (env_none (env_none (env_none (env_none (env_none (env_none (env_none (env_none env_nil)))))))))), fun v H2 s2 r2 => hQ v H2 (p.same.trans s2) r2⟩
theorem H_law_holds (F : Fx w K mg) : Has P w K mg base 9 "_law_holds" 1 c_law_holds :=
  has_raw F.d_law_holds sc_law_holds rfl (fun _ _ _ _ _ _ us hl => match us, hl with | [_], _ => rfl) mo_law_holds (fun f cdv A outer s H E hr => raw_holds F f cdv A outer s H E hr)
end
end Mb
set_option Elab.async false
set_option linter.all false
set_option maxRecDepth 100000
set_option maxHeartbeats 4000000
namespace Mb
open PySem PySem.Spec PyProof.Rows L2
/-! ### the pool of a script that is read only -/
/-- the script at a, read only; a new pool -/
def spP (K : PySem.W.Frag) : Sp := fun vs H Q _ => ∃ (a : Addr) (ns : List Int) (i : Int), vs = [.ref a, .int i] ∧ SqL K H a (ns.map V.int) ∧ 0 ≤ i ∧ i ≤ 90 ∧ ∀ (x y z : Int), 0 ≤ x → 0 ≤ y → y ≤ 90000 → ∀ p H', Same H H' → H p = none → H' p = some (.lst [.int x, .int y, .int z]) → Q (.ref p) H'
structure HasPool (P : Program) (w : World) (K : PySem.W.Frag) (mg : Str → Option Value) (base : Heap) (k : Nat) : Prop where
  ex : ∃ (f : Addr) (fd : FuncData) (ps : List Str), mg "_law_pool" = some (.ref f) ∧ PySem.W.keepIn K (.ref f) = true ∧ Binds K fd ps [] ∧ FnOk P w K mg base CX0 k f fd ps (spP K)
section
variable {X : Cx} {e : Expr} {es : List Expr} {ta : TDA} {p pos : Pos} {x : Str} {k n : Nat} {F : Ct}
theorem pe_pool {tp : TA} (h : HasPool X.prog X.w X.K X.mg X.base k) (hr : Room k X.A) (hg : Gl X "_law_pool") (ha : PA X (e :: es) tp)
    (he : starEach (e :: es) X.env = (false, eval e X.env) :: starEach es X.env := by rfl) (hpl : (backTo pos (starEach es X.env)).any (·.1) = false := by rfl) : PE X (.Call (.Name "_law_pool" p) (e :: es) [] pos) (fun σ H Q => tp σ H fun vs H1 => spP X.K vs H1 Q E0) := by
  obtain ⟨f, fd, ps, h1, h2, h3, h4⟩ := h.ex
  refine PE.imp (pe_call h4 hr hg h1 h2 h3 .nil pass0 ha (by decide) he hpl) fun σ H Q q => ?_
  show tp σ H fun vs H1 => spP X.K (vs ++ []) H1 Q E0
  simpa using q
/-- a call of a def by data, its arguments any -/
theorem pe_callD {tp : TA} (h : Has X.prog X.w X.K X.mg X.base k x n F) (hr : Room k X.A) (hg : Gl X x) (ha : PA X (e :: es) tp) (hdb : (x == ("__debug__" : Str)) = false := by decide)
    (he : starEach (e :: es) X.env = (false, eval e X.env) :: starEach es X.env := by rfl) (hpl : (backTo pos (starEach es X.env)).any (·.1) = false := by rfl) : PE X (.Call (.Name x p) (e :: es) [] pos) (fun σ H Q => tp σ H fun vs H1 => spD X.K n F vs H1 Q E0) := by
  obtain ⟨f, fd, ps, h1, h2, h3, h4⟩ := h.ex
  refine PE.imp (pe_call h4 hr hg h1 h2 h3 .nil pass0 ha hdb he hpl) fun σ H Q q => ?_
  show tp σ H fun vs H1 => spD X.K n F (vs ++ []) H1 Q E0
  simpa using q
/-- a call of a def that takes a pool, the pool any expression -/
theorem pe_callP {c : Nat} {tp : TA} (h : HasI X.prog X.w X.K X.mg X.base k x n c F) (hr : Room k X.A) (hg : Gl X x) (ha : PA X (e :: es) tp) (hdb : (x == ("__debug__" : Str)) = false := by decide)
    (he : starEach (e :: es) X.env = (false, eval e X.env) :: starEach es X.env := by rfl) (hpl : (backTo pos (starEach es X.env)).any (·.1) = false := by rfl) : PE X (.Call (.Name x p) (e :: es) [] pos) (fun σ H Q => tp σ H fun vs H1 => spI X.K c n F vs H1 Q E0) := by
  obtain ⟨f, fd, ps, h1, h2, h3, h4⟩ := h.ex
  refine PE.imp (pe_call h4 hr hg h1 h2 h3 .nil pass0 ha hdb he hpl) fun σ H Q q => ?_
  show tp σ H fun vs H1 => spI X.K c n F (vs ++ []) H1 Q E0
  simpa using q
/-- what is left of _law_pool behind its cell -/
def poolT (K : PySem.W.Frag) : TS := tSeq (tAsg (tC (.int 0)) (gName 3)) (tSeq (tIfS (tAnd (tTest (tOp (rI0 fun i j => .bl (decide (j ≤ i))) (tVar 2) (tOp (rI CPowX fun i j => .int (i ^ j.toNat)) (tC (.int 10)) (tC (.int 18))))) (tTest (tOp (rI0 fun i j => .bl (decide (i < j))) (tVar 1) (tCB (rLenA K) (tCons (tVar 0) tNil))))) (tAsg (tVar 2) (gName 3)) tNext) (tRet (tLst (tCons (tVar 3) (tCons (tOp (rI CMulW fun i j => .int (i * j)) (tC (.int 1000)) (tVar 1)) (tCons (tVar 2) tNil))))))
theorem pool_ok {K : PySem.W.Frag} {a : Addr} {ns : List Int} {i : Int} {H : Hp} (hS : SqL K H a (ns.map V.int)) (i0 : 0 ≤ i) (i1 : i ≤ 90) (D : Ends) (hQ : ∀ (x y z : Int), 0 ≤ x → 0 ≤ y → y ≤ 90000 → ∀ p H', Same H H' → H p = none → H' p = some (.lst [.int x, .int y, .int z]) → D.rt (.ref p) H') (c : Int) : poolT K D [some (.ref a), some (.int i), some (.int c), none] H := by
  have w1 : CMulW 1000 i := by
    have b1 : Bz 10 1000 := by unfold Bz; decide
    have b2 : Bz 10 i := by unfold Bz; omega
    exact b1.mulW b2 (by decide)
  have p18 : (10 : Int) ^ (18 : Int).toNat = 1000000000000000000 := by decide +kernel
  have fin : ∀ x : Int, 0 ≤ x → tRet (tLst (tCons (tVar 3) (tCons (tOp (rI CMulW fun i j => .int (i * j)) (tC (.int 1000)) (tVar 1)) (tCons (tVar 2) tNil)))) D [some (.ref a), some (.int i), some (.int c), some (.int x)] H := fun x hx =>
    ⟨_, rfl, _, rfl, _, _, rfl, rfl, w1, _, rfl, le_line (show (3 : Nat) ≤ 1000 by decide), fun p hp => hQ x (1000 * i) c hx (by omega) (by omega) p _ (same_upd hp) hp upd_same⟩
  refine ⟨_, rfl, _, _, rfl, rfl, ⟨by decide, by decide, by decide +kernel⟩, _, _, rfl, rfl, _, rfl, ?_⟩
  rw [p18]
  by_cases h1 : (1000000000000000000 : Int) ≤ c
  · rw [decide_eq_true h1]
    refine iteT ⟨_, rfl, _, rfl, .inl ⟨a, _, rfl, .inl hS, _, _, rfl, rfl, _, rfl, ?_⟩⟩
    by_cases h2 : i < ((ns.map V.int).length : Int)
    · rw [decide_eq_true h2]
      exact iteT ⟨_, rfl, fin c (by omega)⟩
    · rw [decide_eq_false h2]
      exact iteF (fin 0 (by omega))
  · rw [decide_eq_false h1]
    exact iteF (iteF (fin 0 (by omega)))
end
section
variable {P : Program} {w : World} {K : PySem.W.Frag} {mg : Str → Option Value} {base : Heap}
theorem raw_pool (F : Fx w K mg) (f : Addr) (cdv : Value) (A : Around) (outer : List Env) (s : Shared) (H : Hp) (E : XK) : ∃ t, PSs (bodyX P w K mg base N_law_pool "_law_pool" s_law_pool f cdv A outer s H E) (defBody s_law_pool) t ∧
      ∀ (H : Hp) (vs : List V) (Q : VK) (E : XK), spP K vs H Q E → t { nx := fun _ H' => Q .non H', rt := Q } (L2.start N_law_pool vs) H := by
  refine ⟨_, pss_cons (ps_set (i := 2) sc_law_pool.nd rfl (Or.inl rfl) pe_int)
    (pss_cons (ps_if (pt_cmpR op_gt (pe_callB call_lenA rfl F.m_len boot_len (pa_cons (pe_var (i := 0) rfl (Or.inl rfl)) pa_nil)) pe_int (nomark _)) (pss_one (ps_set (i := 2) sc_law_pool.nd rfl (Or.inl rfl) (pe_ix ix_list (pe_var (i := 0) rfl (Or.inl rfl)) (pe_op op_modN (pe_var (i := 1) rfl (Or.inl rfl)) (pe_callB call_lenA rfl F.m_len boot_len (pa_cons (pe_var (i := 0) rfl (Or.inl rfl)) pa_nil))) (fun _ _ => rfl)))) pss_nil)
    (pss_cons (ps_set (i := 3) sc_law_pool.nd rfl (Or.inl rfl) pe_int)
    (pss_cons (ps_if (PW.pt (pw_and (pt_cmpR op_ge (pe_var (i := 2) rfl (Or.inl rfl)) (pe_op op_powX pe_int pe_int) (nomark _)) (pw_and1 (pt_cmpR op_lt (pe_var (i := 1) rfl (Or.inl rfl)) (pe_callB call_lenA rfl F.m_len boot_len (pa_cons (pe_var (i := 0) rfl (Or.inl rfl)) pa_nil)) (nomark _))))) (pss_one (ps_set (i := 3) sc_law_pool.nd rfl (Or.inl rfl) (pe_var (i := 2) rfl (Or.inl rfl)))) pss_nil)
    (pss_one (ps_ret (pe_lst (pa_cons (pe_var (i := 3) rfl (Or.inl rfl)) (pa_cons (pe_op op_mulW pe_int (pe_var (i := 1) rfl (Or.inl rfl))) (pa_cons (pe_var (i := 2) rfl (Or.inl rfl)) pa_nil))))))))), ?_⟩
  rintro H vs Q E ⟨a, ns, i, rfl, hS, i0, i1, hQ⟩
  refine ⟨_, rfl, .inl ⟨a, _, rfl, .inl hS, _, _, rfl, rfl, _, rfl, ?_⟩⟩
  by_cases h0 : (0 : Int) < ((ns.map V.int).length : Int)
  · rw [decide_eq_true h0]
    have b := fmod_lt (a := i) (b := ((ns.map V.int).length : Int)) h0
    have hc : ∃ c, atI (ns.map V.int) (i.fmod ((ns.map V.int).length : Int)) = some (V.int c) := by
      have hk : (i.fmod ((ns.map V.int).length : Int)).toNat < ns.length := by rw [List.length_map] at b ⊢; omega
      refine ⟨ns[(i.fmod ((ns.map V.int).length : Int)).toNat], ?_⟩
      unfold atI ixN
      rw [if_pos b.1, if_pos b.2]
      show (ns.map V.int)[_]? = _
      rw [List.getElem?_map, List.getElem?_eq_getElem hk]
      rfl
    obtain ⟨c, hc⟩ := hc
    refine iteT ⟨_, rfl, _, rfl, _, rfl, .inl ⟨a, _, rfl, .inl hS, _, _, rfl, rfl, by omega, a, _, _, _, rfl, rfl, hS, hc, ?_⟩⟩
    exact pool_ok hS i0 i1 _ hQ c
  · rw [decide_eq_false h0]
    exact iteF (pool_ok hS i0 i1 _ hQ 0)
theorem HP_law_pool (F : Fx w K mg) : HasPool P w K mg base 1 := by
  obtain ⟨f, fd, h1, h2, Fn⟩ := F.d_law_pool.ex
  refine ⟨⟨f, fd, P_law_pool, h1, h2, Fn.binds (fun _ _ _ _ _ _ us hl => match us, hl with | [_, _], _ => rfl), ?_⟩⟩
  refine Fn.ok sc_law_pool (fun vs H Q E h => ?_) (fun cdv A outer s H vs Q E hroom h => ?_)
  · obtain ⟨a, ns, i, rfl, _⟩ := h
    rfl
  · obtain ⟨t, ht, hq⟩ := raw_pool (P := P) (base := base) F f cdv A outer s H E
    exact ⟨t, ht, hq H vs Q E h⟩
end
/-! ### the names -/
def gAddS : PyData → PyData → (PyData → Prop) → Prop
  | .str i, .str j, Q => i.length + j.length ≤ sizeLine ∧ Q (.str (i ++ j))
  | _, _, _ => False
theorem gAddS_mo : MoG gAddS := fun d e P P' m h => by cases d <;> first | exact h.elim | (cases e <;> first | exact h.elim | exact ⟨h.1, m _ h.2⟩)
theorem lk_addS {K : PySem.W.Frag} : Lk2 K (fun x y H Q => ∃ i j, x = .str i ∧ y = .str j ∧ i.length + j.length ≤ sizeLine ∧ Q (.str (i ++ j)) H) gAddS := fun H x y d e Q r1 r2 h => by
  cases d <;> first
    | exact h.elim
    | (cases e <;> first
      | exact h.elim
      | exact ⟨_, _, r1.str_inv, r2.str_inv, h.1, wV.now h.2 (.str _)⟩)
def gStr : PyData → (PyData → Prop) → Prop
  | .int i, Q => i.natAbs.log2 < 1920 ∧ Q (.str (toString i))
  | _, _ => False
theorem gStr_mo : MoU gStr := fun d P P' m h => by cases d <;> first | exact h.elim | exact ⟨h.1, m _ h.2⟩
theorem lk_str {K : PySem.W.Frag} : Lk1A K (fun xs H Q => ∃ i, xs = [.int i] ∧ i.natAbs.log2 < 1920 ∧ Q (.str (toString i)) H) gStr := fun H x d Q r h => by
  cases d <;> first
    | exact h.elim
    | exact ⟨_, congrArg (fun z => [z]) r.int_inv, h.1, wV.now h.2 (.str _)⟩
def SIGNS : Str := "qdzamxkbwcyplh"
theorem nm_made : ∀ k : Nat, k < 16 → ∃ c, atI SIGNS.cps.toList ((k : Int).fmod 14) = some c ∧ (⟨#[c]⟩ : Str) ++ (toString (k : Int) : Str) = nm k := by
  have h : ∀ k : Nat, k < 16 → ((atI SIGNS.cps.toList ((k : Int).fmod 14)).any fun c => decide ((⟨#[c]⟩ : Str) ++ (toString (k : Int) : Str) = nm k)) = true := by decide +kernel
  intro k hk
  have := h k hk
  cases e : atI SIGNS.cps.toList ((k : Int).fmod 14) with
  | none => rw [e] at this; cases this
  | some c => rw [e] at this; exact ⟨c, rfl, of_decide_eq_true this⟩
end Mb
set_option Elab.async false
set_option linter.all false
set_option maxRecDepth 100000
set_option maxHeartbeats 1000000
namespace Mb
open PySem PySem.Spec PyProof.Rows L2
/-! ### what is drawn is fine -/
def wordS : Nat → Str
  | 0 => "point"
  | 1 => "line"
  | 2 => "circle"
  | _ => "claim"
def ixS : Mk → Nat
  | .line .. | .along .. | .upright .. => 1
  | .circle .. => 2
  | .inline .. | .round .. | .alike .. | .beside .. | .square .. => 3
  | _ => 0
theorem sort_ix (m : Mk) : m.sort = wordS (ixS m) ∧ ixS m < 4 := by cases m <;> exact ⟨rfl, by simp [ixS]⟩
def nsOf (i : Nat) (E : Ew) : List Str := (E.filter fun e => decide (ixS e.m = i)).map En.n
theorem nsOf_snoc (i : Nat) (E : Ew) (e : En) : nsOf i (E ++ [e]) = nsOf i E ++ (if ixS e.m = i then [e.n] else []) := by
  unfold nsOf
  rw [List.filter_append, List.map_append]
  congr 1
  by_cases h : ixS e.m = i
  · rw [if_pos h, List.filter_cons_of_pos (by simpa using h)]
    rfl
  · rw [if_neg h, List.filter_cons_of_neg (by simpa using h)]
    rfl
theorem nsOf_len (i : Nat) (E : Ew) : (nsOf i E).length ≤ E.length := by
  unfold nsOf
  rw [List.length_map]
  exact List.length_filter_le ..
def byE (E : Ew) : By := ⟨nsOf 0 E, nsOf 1 E, nsOf 2 E, nsOf 3 E⟩
theorem VR.fresh {E : Ew} (v : VR E) {k : Nat} (hk : E.length ≤ k) (h16 : k < 16) : Mb.look (sortsE E) (nm k) = none ∧ Mb.look (heavyE E) (nm k) = none := by
  obtain ⟨A, T⟩ := v.tells
  have := T.newS hk h16
  exact ⟨this.1, this.2.1⟩
theorem VR.look : ∀ {E : Ew}, VR E → ∀ e ∈ E, Mb.look (sortsE E) e.n = some e.m.sort ∧ Mb.look (heavyE E) e.n = some e.w ∧ 1 ≤ e.w ∧ e.w ≤ 40 := by
  intro E v
  induction v with
  | nil => intro e h; cases h
  | @snoc E e' v f ih =>
    intro e h
    unfold sortsE heavyE
    rw [List.map_append, List.map_append, look_append, look_append]
    rcases List.mem_append.mp h with h | h
    · obtain ⟨h1, h2, h3⟩ := ih e h
      unfold sortsE at h1
      unfold heavyE at h2
      rw [h1, h2]
      exact ⟨rfl, rfl, h3⟩
    · rw [List.mem_singleton] at h
      subst h
      obtain ⟨h1, h2⟩ := v.fresh (Nat.le_refl _) f.small
      unfold sortsE at h1
      unfold heavyE at h2
      rw [f.name, h1, h2, ← f.name]
      refine ⟨?_, ?_, f.pos, f.le⟩
      · show (if e.n = e.n then some e.m.sort else none) = some e.m.sort
        rw [if_pos rfl]
      · show (if e.n = e.n then some e.w else none) = some e.w
        rw [if_pos rfl]
def hE (E : Ew) (x : Str) : Int := (Mb.look (heavyE E) x).getD 0
structure Nd (E : Ew) (i : Nat) (n : Str) : Prop where
  s : Mb.look (sortsE E) n = some (wordS i)
  h : Mb.look (heavyE E) n = some (hE E n)
  pos : 1 ≤ hE E n
  le : hE E n ≤ 40
theorem VR.nd {E : Ew} (v : VR E) {i : Nat} {n : Str} (h : n ∈ nsOf i E) : Nd E i n := by
  unfold nsOf at h
  obtain ⟨e, he, rfl⟩ := List.mem_map.mp h
  obtain ⟨h1, h2⟩ := List.mem_filter.mp he
  have h2 : ixS e.m = i := of_decide_eq_true h2
  obtain ⟨l1, l2, l3, l4⟩ := v.look e h1
  have e1 : hE E e.n = e.w := by unfold hE; rw [l2]; rfl
  refine ⟨?_, by rw [e1]; exact l2, by rw [e1]; exact l3, by rw [e1]; exact l4⟩
  rw [l1, (sort_ix e.m).1, h2]
theorem suits_ok : suitsB (wordS 0) "point" = true ∧ suitsB (wordS 1) "line" = true ∧ suitsB (wordS 2) "circle" = true ∧ suitsB (wordS 1) "curve" = true ∧ suitsB (wordS 2) "curve" = true := by decide +kernel
structure Dr (E : Ew) (m : Mk) (c : Bool) : Prop where
  wgd : Wgd (sortsE E) (heavyE E) m c (hE E)
  one : ∀ x ∈ m.gr, 1 ≤ hE E x
  fits : Fits2 (sortsE E) m.gr m.asked
  far : NotFar m
  share : ∀ p q t, m = .share p q t → t.num.natAbs ≤ 7 ∧ t.den ≤ 7
  cut : ∀ u c k, m = .cut u c k → k = 1 ∨ k = 2
  pos : 1 ≤ wgtOf m c (hE E)
theorem Dr.fine {E : Ew} {m : Mk} {c : Bool} (d : Dr E m c) (h16 : E.length < 16) (hw : wgtOf m c (hE E) ≤ 40) : Fine E ⟨nm E.length, m, wgtOf m c (hE E)⟩ :=
  ⟨rfl, h16, d.fits, d.far, d.share, d.cut, ⟨c, hE E, d.wgd, rfl, d.one⟩, d.pos, hw⟩
theorem gr2 {p q : Str} {P : Str → Prop} (h1 : P p) (h2 : P q) : ∀ x ∈ [p, q], P x := by
  intro x hx
  simp only [List.mem_cons, List.not_mem_nil, or_false] at hx
  rcases hx with rfl | rfl
  · exact h1
  · exact h2
theorem gr3 {p q r : Str} {P : Str → Prop} (h1 : P p) (h2 : P q) (h3 : P r) : ∀ x ∈ [p, q, r], P x := by
  intro x hx
  simp only [List.mem_cons, List.not_mem_nil, or_false] at hx
  rcases hx with rfl | rfl | rfl
  · exact h1
  · exact h2
  · exact h3
theorem gr4 {p q r s : Str} {P : Str → Prop} (h1 : P p) (h2 : P q) (h3 : P r) (h4 : P s) : ∀ x ∈ [p, q, r, s], P x := by
  intro x hx
  simp only [List.mem_cons, List.not_mem_nil, or_false] at hx
  rcases hx with rfl | rfl | rfl | rfl
  · exact h1
  · exact h2
  · exact h3
  · exact h4
theorem free_dr (E : Ew) {x y : Rat} (hx : Wn 1000000000 x) (hy : Wn 1000000000 y) : Dr E (.free x y) false :=
  ⟨⟨fun n h => (by cases h), fun n h => (by cases h), (fun _ _ _ e => nomatch e)⟩, fun n h => (by cases h), trivial, ⟨hx, hy⟩, (fun _ _ _ e => nomatch e), (fun _ _ _ e => nomatch e), by show (1 : Int) ≤ 1; omega⟩
theorem drawn_dr {E : Ew} (v : VR E) {m : Mk} (h : Drawn (byE E) m) : ∃ c, Dr E m c := by
  obtain ⟨s0, s1, s2, s3, s4⟩ := suits_ok
  cases m with
  | free x y => exact ⟨false, free_dr E h.1 h.2⟩
  | middle p q =>
    have n0 := v.nd (i := 0) h.1
    have n1 := v.nd (i := 0) h.2
    have p0 := n0.pos
    have p1 := n1.pos
    have l0 := n0.le
    have l1 := n1.le
    refine ⟨false, ⟨gr2 n0.h n1.h, gr2 ⟨by omega, l0⟩ ⟨by omega, l1⟩, (fun _ _ _ e => nomatch e)⟩, gr2 p0 p1, ⟨⟨_, n0.s, s0⟩, ⟨_, n1.s, s0⟩, trivial⟩, trivial, (fun _ _ _ e => nomatch e), (fun _ _ _ e => nomatch e), ?_⟩
    show 1 ≤ hE E p + hE E q
    omega
  | next p q =>
    have n0 := v.nd (i := 0) h.1
    have n1 := v.nd (i := 0) h.2
    have p0 := n0.pos
    have p1 := n1.pos
    have l0 := n0.le
    have l1 := n1.le
    refine ⟨false, ⟨gr2 n0.h n1.h, gr2 ⟨by omega, l0⟩ ⟨by omega, l1⟩, (fun _ _ _ e => nomatch e)⟩, gr2 p0 p1, ⟨⟨_, n0.s, s0⟩, ⟨_, n1.s, s0⟩, trivial⟩, trivial, (fun _ _ _ e => nomatch e), (fun _ _ _ e => nomatch e), ?_⟩
    show 1 ≤ hE E p + hE E q
    omega
  | turn p q =>
    have n0 := v.nd (i := 0) h.1
    have n1 := v.nd (i := 0) h.2
    have p0 := n0.pos
    have p1 := n1.pos
    have l0 := n0.le
    have l1 := n1.le
    refine ⟨false, ⟨gr2 n0.h n1.h, gr2 ⟨by omega, l0⟩ ⟨by omega, l1⟩, (fun _ _ _ e => nomatch e)⟩, gr2 p0 p1, ⟨⟨_, n0.s, s0⟩, ⟨_, n1.s, s0⟩, trivial⟩, trivial, (fun _ _ _ e => nomatch e), (fun _ _ _ e => nomatch e), ?_⟩
    show 1 ≤ hE E p + hE E q
    omega
  | line p q =>
    have n0 := v.nd (i := 0) h.1
    have n1 := v.nd (i := 0) h.2
    have p0 := n0.pos
    have p1 := n1.pos
    have l0 := n0.le
    have l1 := n1.le
    refine ⟨false, ⟨gr2 n0.h n1.h, gr2 ⟨by omega, l0⟩ ⟨by omega, l1⟩, (fun _ _ _ e => nomatch e)⟩, gr2 p0 p1, ⟨⟨_, n0.s, s0⟩, ⟨_, n1.s, s0⟩, trivial⟩, trivial, (fun _ _ _ e => nomatch e), (fun _ _ _ e => nomatch e), ?_⟩
    show 1 ≤ hE E p + hE E q
    omega
  | circle p q =>
    have n0 := v.nd (i := 0) h.1
    have n1 := v.nd (i := 0) h.2
    have p0 := n0.pos
    have p1 := n1.pos
    have l0 := n0.le
    have l1 := n1.le
    refine ⟨false, ⟨gr2 n0.h n1.h, gr2 ⟨by omega, l0⟩ ⟨by omega, l1⟩, (fun _ _ _ e => nomatch e)⟩, gr2 p0 p1, ⟨⟨_, n0.s, s0⟩, ⟨_, n1.s, s0⟩, trivial⟩, trivial, (fun _ _ _ e => nomatch e), (fun _ _ _ e => nomatch e), ?_⟩
    show 1 ≤ hE E p + hE E q
    omega
  | share p q t =>
    have n0 := v.nd (i := 0) h.1
    have n1 := v.nd (i := 0) h.2.1
    have p0 := n0.pos
    have p1 := n1.pos
    have l0 := n0.le
    have l1 := n1.le
    refine ⟨false, ⟨gr2 n0.h n1.h, gr2 ⟨by omega, l0⟩ ⟨by omega, l1⟩, (fun _ _ _ e => nomatch e)⟩, gr2 p0 p1, ⟨⟨_, n0.s, s0⟩, ⟨_, n1.s, s0⟩, trivial⟩, ⟨by have := h.2.2.1; omega, by have := h.2.2.2; omega⟩, fun _ _ _ e => by injection e with _ _ e; subst e; exact h.2.2, (fun _ _ _ e => nomatch e), ?_⟩
    show 1 ≤ hE E p + hE E q
    omega
  | foot p q =>
    have n0 := v.nd (i := 0) h.1
    have n1 := v.nd (i := 1) h.2
    have p0 := n0.pos
    have p1 := n1.pos
    have l0 := n0.le
    have l1 := n1.le
    refine ⟨false, ⟨gr2 n0.h n1.h, gr2 ⟨by omega, l0⟩ ⟨by omega, l1⟩, (fun _ _ _ e => nomatch e)⟩, gr2 p0 p1, ⟨⟨_, n0.s, s0⟩, ⟨_, n1.s, s1⟩, trivial⟩, trivial, (fun _ _ _ e => nomatch e), (fun _ _ _ e => nomatch e), ?_⟩
    show 1 ≤ hE E p + 2 * hE E q
    omega
  | mirror p q =>
    have n0 := v.nd (i := 0) h.1
    have n1 := v.nd (i := 1) h.2
    have p0 := n0.pos
    have p1 := n1.pos
    have l0 := n0.le
    have l1 := n1.le
    refine ⟨false, ⟨gr2 n0.h n1.h, gr2 ⟨by omega, l0⟩ ⟨by omega, l1⟩, (fun _ _ _ e => nomatch e)⟩, gr2 p0 p1, ⟨⟨_, n0.s, s0⟩, ⟨_, n1.s, s1⟩, trivial⟩, trivial, (fun _ _ _ e => nomatch e), (fun _ _ _ e => nomatch e), ?_⟩
    show 1 ≤ hE E p + 2 * hE E q
    omega
  | along p q =>
    have n0 := v.nd (i := 0) h.1
    have n1 := v.nd (i := 1) h.2
    have p0 := n0.pos
    have p1 := n1.pos
    have l0 := n0.le
    have l1 := n1.le
    refine ⟨false, ⟨gr2 n0.h n1.h, gr2 ⟨by omega, l0⟩ ⟨by omega, l1⟩, (fun _ _ _ e => nomatch e)⟩, gr2 p0 p1, ⟨⟨_, n0.s, s0⟩, ⟨_, n1.s, s1⟩, trivial⟩, trivial, (fun _ _ _ e => nomatch e), (fun _ _ _ e => nomatch e), ?_⟩
    show 1 ≤ hE E p + hE E q
    omega
  | upright p q =>
    have n0 := v.nd (i := 0) h.1
    have n1 := v.nd (i := 1) h.2
    have p0 := n0.pos
    have p1 := n1.pos
    have l0 := n0.le
    have l1 := n1.le
    refine ⟨false, ⟨gr2 n0.h n1.h, gr2 ⟨by omega, l0⟩ ⟨by omega, l1⟩, (fun _ _ _ e => nomatch e)⟩, gr2 p0 p1, ⟨⟨_, n0.s, s0⟩, ⟨_, n1.s, s1⟩, trivial⟩, trivial, (fun _ _ _ e => nomatch e), (fun _ _ _ e => nomatch e), ?_⟩
    show 1 ≤ hE E p + hE E q
    omega
  | meet p q =>
    have n0 := v.nd (i := 1) h.1
    have n1 := v.nd (i := 1) h.2
    have p0 := n0.pos
    have p1 := n1.pos
    have l0 := n0.le
    have l1 := n1.le
    refine ⟨false, ⟨gr2 n0.h n1.h, gr2 ⟨by omega, l0⟩ ⟨by omega, l1⟩, (fun _ _ _ e => nomatch e)⟩, gr2 p0 p1, ⟨⟨_, n0.s, s1⟩, ⟨_, n1.s, s1⟩, trivial⟩, trivial, (fun _ _ _ e => nomatch e), (fun _ _ _ e => nomatch e), ?_⟩
    show 1 ≤ hE E p + hE E q
    omega
  | beside p q =>
    have n0 := v.nd (i := 1) h.1
    have n1 := v.nd (i := 1) h.2
    have p0 := n0.pos
    have p1 := n1.pos
    have l0 := n0.le
    have l1 := n1.le
    refine ⟨false, ⟨gr2 n0.h n1.h, gr2 ⟨by omega, l0⟩ ⟨by omega, l1⟩, (fun _ _ _ e => nomatch e)⟩, gr2 p0 p1, ⟨⟨_, n0.s, s1⟩, ⟨_, n1.s, s1⟩, trivial⟩, trivial, (fun _ _ _ e => nomatch e), (fun _ _ _ e => nomatch e), ?_⟩
    show 1 ≤ hE E p + hE E q
    omega
  | square p q =>
    have n0 := v.nd (i := 1) h.1
    have n1 := v.nd (i := 1) h.2
    have p0 := n0.pos
    have p1 := n1.pos
    have l0 := n0.le
    have l1 := n1.le
    refine ⟨false, ⟨gr2 n0.h n1.h, gr2 ⟨by omega, l0⟩ ⟨by omega, l1⟩, (fun _ _ _ e => nomatch e)⟩, gr2 p0 p1, ⟨⟨_, n0.s, s1⟩, ⟨_, n1.s, s1⟩, trivial⟩, trivial, (fun _ _ _ e => nomatch e), (fun _ _ _ e => nomatch e), ?_⟩
    show 1 ≤ hE E p + hE E q
    omega
  | cut u c k =>
    obtain ⟨hu, hc, hk⟩ := h
    have n1 := v.nd (i := 2) hc
    have p1 := n1.pos
    have l1 := n1.le
    rcases hu with hu | hu
    · have n0 := v.nd (i := 1) hu
      have p0 := n0.pos
      have l0 := n0.le
      refine ⟨false, ⟨gr2 n0.h n1.h, gr2 ⟨by omega, l0⟩ ⟨by omega, l1⟩, fun a b d e => by injection e with e1 e2 e3; subst e1; exact ⟨_, n0.s, (by decide +kernel)⟩⟩, gr2 p0 p1, ⟨⟨_, n0.s, s3⟩, ⟨_, n1.s, s2⟩, trivial⟩, trivial, (fun _ _ _ e => nomatch e), fun a b d e => by injection e with e1 e2 e3; subst e3; exact hk, ?_⟩
      show 1 ≤ (if false = true then 5 * (hE E u + hE E c) else 2 * hE E u + hE E c)
      rw [if_neg (by decide)]
      omega
    · have n0 := v.nd (i := 2) hu
      have p0 := n0.pos
      have l0 := n0.le
      refine ⟨true, ⟨gr2 n0.h n1.h, gr2 ⟨by omega, l0⟩ ⟨by omega, l1⟩, fun a b d e => by injection e with e1 e2 e3; subst e1; exact ⟨_, n0.s, (by decide +kernel)⟩⟩, gr2 p0 p1, ⟨⟨_, n0.s, s4⟩, ⟨_, n1.s, s2⟩, trivial⟩, trivial, (fun _ _ _ e => nomatch e), fun a b d e => by injection e with e1 e2 e3; subst e3; exact hk, ?_⟩
      show 1 ≤ (if true = true then 5 * (hE E u + hE E c) else 2 * hE E u + hE E c)
      rw [if_pos rfl]
      omega
  | inline p q r =>
    have n0 := v.nd (i := 0) h.1
    have n1 := v.nd (i := 0) h.2.1
    have n2 := v.nd (i := 0) h.2.2
    have p0 := n0.pos
    have p1 := n1.pos
    have p2 := n2.pos
    have l0 := n0.le
    have l1 := n1.le
    have l2 := n2.le
    refine ⟨false, ⟨gr3 n0.h n1.h n2.h, gr3 ⟨by omega, l0⟩ ⟨by omega, l1⟩ ⟨by omega, l2⟩, (fun _ _ _ e => nomatch e)⟩, gr3 p0 p1 p2, ⟨⟨_, n0.s, s0⟩, ⟨_, n1.s, s0⟩, ⟨_, n2.s, s0⟩, trivial⟩, trivial, (fun _ _ _ e => nomatch e), (fun _ _ _ e => nomatch e), ?_⟩
    show 1 ≤ hE E p + (hE E q + hE E r)
    omega
  | round p q r s =>
    have n0 := v.nd (i := 0) h.1
    have n1 := v.nd (i := 0) h.2.1
    have n2 := v.nd (i := 0) h.2.2.1
    have n3 := v.nd (i := 0) h.2.2.2
    have p0 := n0.pos
    have p1 := n1.pos
    have p2 := n2.pos
    have p3 := n3.pos
    have l0 := n0.le
    have l1 := n1.le
    have l2 := n2.le
    have l3 := n3.le
    refine ⟨false, ⟨gr4 n0.h n1.h n2.h n3.h, gr4 ⟨by omega, l0⟩ ⟨by omega, l1⟩ ⟨by omega, l2⟩ ⟨by omega, l3⟩, (fun _ _ _ e => nomatch e)⟩, gr4 p0 p1 p2 p3, ⟨⟨_, n0.s, s0⟩, ⟨_, n1.s, s0⟩, ⟨_, n2.s, s0⟩, ⟨_, n3.s, s0⟩, trivial⟩, trivial, (fun _ _ _ e => nomatch e), (fun _ _ _ e => nomatch e), ?_⟩
    show 1 ≤ 2 * (hE E p + (hE E q + (hE E r + hE E s)))
    omega
  | alike p q r s =>
    have n0 := v.nd (i := 0) h.1
    have n1 := v.nd (i := 0) h.2.1
    have n2 := v.nd (i := 0) h.2.2.1
    have n3 := v.nd (i := 0) h.2.2.2
    have p0 := n0.pos
    have p1 := n1.pos
    have p2 := n2.pos
    have p3 := n3.pos
    have l0 := n0.le
    have l1 := n1.le
    have l2 := n2.le
    have l3 := n3.le
    refine ⟨false, ⟨gr4 n0.h n1.h n2.h n3.h, gr4 ⟨by omega, l0⟩ ⟨by omega, l1⟩ ⟨by omega, l2⟩ ⟨by omega, l3⟩, (fun _ _ _ e => nomatch e)⟩, gr4 p0 p1 p2 p3, ⟨⟨_, n0.s, s0⟩, ⟨_, n1.s, s0⟩, ⟨_, n2.s, s0⟩, ⟨_, n3.s, s0⟩, trivial⟩, trivial, (fun _ _ _ e => nomatch e), (fun _ _ _ e => nomatch e), ?_⟩
    show 1 ≤ 2 * (hE E p + (hE E q + (hE E r + hE E s)))
    omega
end Mb
set_option Elab.async false
set_option linter.all false
set_option maxRecDepth 100000
set_option maxHeartbeats 4000000
namespace Mb
open PySem PySem.Spec PyProof.Rows L2
/-! ### _law_plain_row -/
/-- the script at a, read only; what is drawn of it -/
def spRow (K : PySem.W.Frag) : Sp := fun vs H Q _ => ∃ (a : Addr) (ns : List Int) (n : Nat), vs = [.ref a, .int (n : Nat)] ∧ SqL K H a (ns.map V.int) ∧ 1 ≤ n ∧ n ≤ 16 ∧ ∀ E, VR E → E.length = n → wV K H Q (.list ((E.map En.r).map rowD))
theorem Same.seqL {K : PySem.W.Frag} {H H' : Hp} {a : Addr} {xs : List V} (e : Same H H') (h : SqL K H a xs) : SqL K H' a xs := by
  rcases h with (h | ⟨o, h⟩) | h
  · exact .inl (.inl (e _ _ h))
  · exact .inl (.inr ⟨o, e _ _ h⟩)
  · exact .inr h
/-- a def that keeps a promise -/
structure HasS (P : Program) (w : World) (K : PySem.W.Frag) (mg : Str → Option Value) (base : Heap) (k : Nat) (x : Str) (sp : Sp) : Prop where
  ex : ∃ (f : Addr) (fd : FuncData) (ps : List Str), mg x = some (.ref f) ∧ PySem.W.keepIn K (.ref f) = true ∧ Binds K fd ps [] ∧ FnOk P w K mg base CX0 k f fd ps sp
theorem pe_callS {X : Cx} {e : Expr} {es : List Expr} {p pos : Pos} {x : Str} {k : Nat} {sp : Sp} {tp : TA} (h : HasS X.prog X.w X.K X.mg X.base k x sp) (hr : Room k X.A) (hg : Gl X x) (ha : PA X (e :: es) tp) (hdb : (x == ("__debug__" : Str)) = false := by decide)
    (he : starEach (e :: es) X.env = (false, eval e X.env) :: starEach es X.env := by rfl) (hpl : (backTo pos (starEach es X.env)).any (·.1) = false := by rfl) : PE X (.Call (.Name x p) (e :: es) [] pos) (fun σ H Q => tp σ H fun vs H1 => sp vs H1 Q E0) := by
  obtain ⟨f, fd, ps, h1, h2, h3, h4⟩ := h.ex
  refine PE.imp (pe_call h4 hr hg h1 h2 h3 .nil pass0 ha hdb he hpl) fun σ H Q q => ?_
  show tp σ H fun vs H1 => sp (vs ++ []) H1 Q E0
  simpa using q
/-- the dict of the lists at L -/
def kvBy (L : Nat → Addr) : List (Key × V) := [(.inr "point", .ref (L 0)), (.inr "line", .ref (L 1)), (.inr "circle", .ref (L 2)), (.inr "claim", .ref (L 3))]
theorem kvBy_get (L : Nat → Addr) {j : Nat} (h : j < 4) : valV (kvBy L) (.inr (wordS j)) = some (.ref (L j)) := by
  have ne : ∀ a b : Str, a ≠ b → ¬ (Sum.inr a : Key) = Sum.inr b := fun a b h z => h (Sum.inr.inj z)
  have n1 : ¬ (Sum.inr ("point" : Str) : Key) = Sum.inr ("line" : Str) := ne _ _ (by decide +kernel)
  have n2 : ¬ (Sum.inr ("point" : Str) : Key) = Sum.inr ("circle" : Str) := ne _ _ (by decide +kernel)
  have n3 : ¬ (Sum.inr ("point" : Str) : Key) = Sum.inr ("claim" : Str) := ne _ _ (by decide +kernel)
  have n4 : ¬ (Sum.inr ("line" : Str) : Key) = Sum.inr ("circle" : Str) := ne _ _ (by decide +kernel)
  have n5 : ¬ (Sum.inr ("line" : Str) : Key) = Sum.inr ("claim" : Str) := ne _ _ (by decide +kernel)
  have n6 : ¬ (Sum.inr ("circle" : Str) : Key) = Sum.inr ("claim" : Str) := ne _ _ (by decide +kernel)
  unfold kvBy
  match j, h with
  | 0, _ => exact valV_pos rfl
  | 1, _ => exact (valV_neg n1).trans (valV_pos rfl)
  | 2, _ => exact (valV_neg n2).trans ((valV_neg n4).trans (valV_pos rfl))
  | 3, _ => exact (valV_neg n3).trans ((valV_neg n5).trans ((valV_neg n6).trans (valV_pos rfl)))
/-- where all stands -/
structure Pc0 (H0 : Hp) (RA DB DS DH : Addr) (L : Nat → Addr) : Prop where
  ra : H0 RA = none
  db : H0 DB = none
  ds : H0 DS = none
  dh : H0 DH = none
  l : ∀ j, j < 4 → H0 (L j) = none
  inj : ∀ i j, i < 4 → j < 4 → L i = L j → i = j
  lr : ∀ j, j < 4 → L j ≠ RA
  n1 : DB ≠ DS
  n2 : DB ≠ DH
  n3 : DS ≠ DH
/-- what stands there -/
structure PAt (K : PySem.W.Frag) (RA DB DS DH : Addr) (L : Nat → Addr) (E : Ew) (H : Hp) : Prop where
  row : ∃ xs, H RA = some (.lst xs) ∧ RpAll K H xs ((E.map En.r).map rowD)
  by_ : H DB = some (.dK (kvBy L))
  l : ∀ j, j < 4 → H (L j) = some (.lst ((nsOf j E).map V.str))
  s : ∃ kvs, H DS = some (.dK kvs) ∧ KvT K H kvs (sKv E)
  h : ∃ kvs, H DH = some (.dK kvs) ∧ KvT K H kvs (hKv E)
theorem PAt.mono {K : PySem.W.Frag} {RA DB DS DH : Addr} {L : Nat → Addr} {E : Ew} {H H' : Hp} (p : PAt K RA DB DS DH L E H) (s : Same H H') : PAt K RA DB DS DH L E H' :=
  ⟨let ⟨xs, h1, h2⟩ := p.row; ⟨xs, s _ _ h1, h2.mono s⟩, s _ _ p.by_, fun j hj => s _ _ (p.l j hj), let ⟨k, h1, h2⟩ := p.s; ⟨k, s _ _ h1, h2.mono (SameT.of s)⟩, let ⟨k, h1, h2⟩ := p.h; ⟨k, s _ _ h1, h2.mono (SameT.of s)⟩⟩
theorem rp_strs {K : PySem.W.Frag} {H : Hp} : ∀ ns : List Str, RpAll K H (ns.map V.str) (sds ns)
  | [] => .nil
  | n :: ns => .cons (.str n) (rp_strs ns)
theorem PAt.byD {K : PySem.W.Frag} {RA DB DS DH : Addr} {L : Nat → Addr} {E : Ew} {H : Hp} (p : PAt K RA DB DS DH L E H) : Rp K H (.ref DB) (Mb.byD (byE E)) :=
  .dic p.by_ (.cons (.lst (p.l 0 (by decide)) (rp_strs _)) (.cons (.lst (p.l 1 (by decide)) (rp_strs _)) (.cons (.lst (p.l 2 (by decide)) (rp_strs _)) (.cons (.lst (p.l 3 (by decide)) (rp_strs _)) .nil))))
def tailT (K : PySem.W.Frag) : TS := tSeq (sDPut (tVar 5) (tVar 9) (lE K (dCall 3 c_weigh (dCons (dVar 10) (dCons (dVar 4) (dCons (dVar 5) dNil))))))
  (tSeq (sDPut (tVar 4) (tVar 9) (lE K (dCall 1 c_sort_of (dCons (dVar 10) dNil))))
  (tSeq (tDrop (tBM K "list" rAppend (tDGet (tVar 3) (lE K (dOp gDGet (dVar 4) (dVar 9)))) (tCons (tVar 9) tNil)))
    (tDrop (tBM K "list" rAppend (tVar 2) (tCons (tTup (tCons (tVar 9) (tCons (tVar 10) tNil))) tNil)))))
theorem tail_ok {K : PySem.W.Frag} {H0 : Hp} {RA DB DS DH : Addr} {L : Nat → Addr} (C : Pc0 H0 RA DB DS DH L) {E : Ew} {H : Hp} (s0 : Same H0 H) (p : PAt K RA DB DS DH L E H) (v : VR E) {m : Mk} {c : Bool} (d : Dr E m c) (h16 : E.length < 16) (hw : wgtOf m c (hE E) ≤ 40) {vm : V} (rm : Rp K H vm (mkD m)) (D' : Ends) (a0 a1 a6 a7 a8 : Option V)
    (hD : ∀ H', Same H0 H' → VR (E ++ [⟨nm E.length, m, wgtOf m c (hE E)⟩]) → PAt K RA DB DS DH L (E ++ [⟨nm E.length, m, wgtOf m c (hE E)⟩]) H' → D'.nx [a0, a1, some (.ref RA), some (.ref DB), some (.ref DS), some (.ref DH), a6, a7, a8, some (.str (nm E.length)), some vm] H') :
    tailT K D' [a0, a1, some (.ref RA), some (.ref DB), some (.ref DS), some (.ref DH), a6, a7, a8, some (.str (nm E.length)), some vm] H := by
  obtain ⟨xs, hra, rx⟩ := p.row
  obtain ⟨kvs, hds, kts⟩ := p.s
  obtain ⟨kvh, hdh, kth⟩ := p.h
  have hdb := p.by_
  have hl := p.l
  obtain ⟨es, ej⟩ := sort_ix m
  obtain ⟨f1, f2⟩ := v.fresh (Nat.le_refl _) h16
  have F := d.fine h16 hw
  -- heavy
  refine ⟨[none, none, none, none, some (sD (sortsE E)), some (Mb.hD (heavyE E)), none, none, none, none, some (mkD m)], env_none (env_none (env_none (env_none (env_some (kts.sD hds) (env_some (kth.hD hdh) (env_none (env_none (env_none (env_none (env_some rm env_nil)))))))))), m, _, _, c, hE E, rfl, d.wgd, fun w H1 s1 r1 => ?_⟩
  have lh := kth.low (by rw [List.length_map]; unfold heavyE; rw [List.length_map]; omega)
  have ls := kts.low (by rw [List.length_map]; unfold sortsE; rw [List.length_map]; omega)
  have hdh1 := s1 _ _ hdh
  refine ⟨_, rfl, _, rfl, DH, _, rfl, DPut.k (k := .inr (nm E.length)) hdh1 lh, ?_⟩
  have hds2 : upd H1 DH (.dK (putK kvh (.inr (nm E.length)) w)) DS = some (.dK kvs) := by rw [upd_ne C.n3]; exact s1 _ _ hds
  have t02 : SameT K H (upd H1 DH (.dK (putK kvh (.inr (nm E.length)) w))) := (SameT.of s1).trans (SameT.updK hdh1)
  -- sorts
  refine ⟨[none, none, none, none, none, none, none, none, none, none, some (mkD m)], env_none (env_none (env_none (env_none (env_none (env_none (env_none (env_none (env_none (env_none (env_some (rm.tups t02 (tupO_mk m)) env_nil)))))))))), m, rfl, fun u H3 s3 r3 => ?_⟩
  have hds3 := s3 _ _ hds2
  refine ⟨_, rfl, _, rfl, DS, _, rfl, DPut.k (k := .inr (nm E.length)) hds3 ls, ?_⟩
  have t04 : SameT K H (upd H3 DS (.dK (putK kvs (.inr (nm E.length)) u))) := (t02.trans (SameT.of s3)).trans (SameT.updK hds3)
  have k4 : ∀ b o, b ≠ DH → b ≠ DS → H b = some o → upd H3 DS (.dK (putK kvs (.inr (nm E.length)) u)) b = some o := fun b o n1 n2 h => by
    rw [upd_ne n2]
    refine s3 _ _ ?_
    rw [upd_ne n1]
    exact s1 _ _ h
  have kts4 : KvT K (upd H3 DS (.dK (putK kvs (.inr (nm E.length)) u))) (putK kvs (.inr (nm E.length)) u) (sKv (E ++ [⟨nm E.length, m, wgtOf m c (hE E)⟩])) := by
    rw [sKv_snoc]
    refine KvT.mono (KvT.put (kts.mono (t02.trans (SameT.of s3))) ?_ r3 rfl) (SameT.updK hds3)
    rw [look_map, f1]
    rfl
  have kth2 : KvT K (upd H1 DH (.dK (putK kvh (.inr (nm E.length)) w))) (putK kvh (.inr (nm E.length)) w) (hKv (E ++ [⟨nm E.length, m, wgtOf m c (hE E)⟩])) := by
    rw [hKv_snoc]
    refine KvT.mono (KvT.put (kth.mono (SameT.of s1)) ?_ r1 rfl) (SameT.updK hdh1)
    rw [look_map, f2]
    rfl
  -- by
  have rdb : RA ≠ DH := fun z => by rw [z, hdh] at hra; cases hra
  have rds : RA ≠ DS := fun z => by rw [z, hds] at hra; cases hra
  have rdb2 : RA ≠ DB := fun z => by rw [z, hdb] at hra; cases hra
  have ldh : ∀ j, j < 4 → L j ≠ DH := fun j hj z => by have := hl j hj; rw [z, hdh] at this; cases this
  have lds : ∀ j, j < 4 → L j ≠ DS := fun j hj z => by have := hl j hj; rw [z, hds] at this; cases this
  have ldb : ∀ j, j < 4 → L j ≠ DB := fun j hj z => by have := hl j hj; rw [z, hdb] at this; cases this
  have lk : Mb.look (sortsE (E ++ [⟨nm E.length, m, wgtOf m c (hE E)⟩])) (nm E.length) = some m.sort := ((VR.snoc v F).look _ (List.mem_append_right _ (List.mem_singleton.mpr rfl))).1
  refine ⟨_, rfl, [none, none, none, none, some (sD (sortsE (E ++ [⟨nm E.length, m, wgtOf m c (hE E)⟩]))), none, none, none, none, some (.str (nm E.length)), none], env_none (env_none (env_none (env_none (env_some (kts4.sD upd_same) (env_none (env_none (env_none (env_none (env_some (.str _) (env_none env_nil)))))))))), gDGet_kv lk fun y H5 s5 r5 => ?_⟩
  have ey := r5.str_inv
  rw [es] at ey
  subst ey
  have hdb5 := s5 _ _ (k4 _ _ C.n2 C.n1 hdb)
  have hlj5 := s5 _ _ (k4 _ _ (ldh _ ej) (lds _ ej) (hl _ ej))
  refine ⟨DB, .ref (L (ixS m)), rfl, ?_, .inl ⟨rfl, _, SqL.of hlj5⟩, _, rfl, L (ixS m), _, _, rfl, rfl, hlj5, ?_, ?_⟩
  · rw [← kvBy_get L ej]
    exact DGet.k (k := .inr (wordS (ixS m))) hdb5
  · rw [List.length_map]
    have := nsOf_len (ixS m) E
    exact small1000 (by omega)
  -- row
  have hra6 : upd H5 (L (ixS m)) (.lst ((nsOf (ixS m) E).map V.str ++ [.str (nm E.length)])) RA = some (.lst xs) := by
    rw [upd_ne (Ne.symm (C.lr _ ej))]
    exact s5 _ _ (k4 _ _ rdb rds hra)
  refine ⟨_, rfl, .inl ⟨rfl, _, SqL.of hra6⟩, _, rfl, _, rfl, le_line (show (2 : Nat) ≤ 1000 by decide), fun q hq => ⟨RA, xs, _, rfl, rfl, ?_, ?_, ?_⟩⟩
  · rw [upd_ne (ne_of_none hra6 hq)]
    exact hra6
  · rw [rx.length, List.length_map, List.length_map]
    exact small1000 (by omega)
  have t06 : SameT K H (upd H5 (L (ixS m)) (.lst ((nsOf (ixS m) E).map V.str ++ [.str (nm E.length)]))) := (t04.trans (SameT.of s5)).trans (SameT.updL hlj5)
  have s67 : Same (upd H5 (L (ixS m)) (.lst ((nsOf (ixS m) E).map V.str ++ [.str (nm E.length)]))) (upd (upd H5 (L (ixS m)) (.lst ((nsOf (ixS m) E).map V.str ++ [.str (nm E.length)]))) q (.tup [.str (nm E.length), vm])) := same_upd hq
  have hra7 := s67 _ _ hra6
  have t08 := (t06.trans (SameT.of s67)).trans (SameT.updL (o := .lst (xs ++ [.ref q])) hra7)
  have k8 : ∀ b o, b ≠ L (ixS m) → b ≠ RA → upd H3 DS (.dK (putK kvs (.inr (nm E.length)) u)) b = some o → upd (upd (upd H5 (L (ixS m)) (.lst ((nsOf (ixS m) E).map V.str ++ [.str (nm E.length)]))) q (.tup [.str (nm E.length), vm])) RA (.lst (xs ++ [.ref q])) b = some o := fun b o n1 n2 h => by
    rw [upd_ne n2]
    refine s67 _ _ ?_
    rw [upd_ne n1]
    exact s5 _ _ h
  have nq : q ≠ RA := fun z => by rw [z] at hq; rw [hra6] at hq; cases hq
  refine hD _ (fun b o h => ?_) (VR.snoc v F) ⟨⟨xs ++ [.ref q], upd_same, ?_⟩, ?_, fun j hj => ?_, ⟨putK kvs (.inr (nm E.length)) u, ?_, ?_⟩, ⟨putK kvh (.inr (nm E.length)) w, ?_, ?_⟩⟩
  · have b1 : b ≠ DH := fun z => by rw [z, C.dh] at h; cases h
    have b2 : b ≠ DS := fun z => by rw [z, C.ds] at h; cases h
    have b3 : b ≠ L (ixS m) := fun z => by rw [z, C.l _ ej] at h; cases h
    have b4 : b ≠ RA := fun z => by rw [z, C.ra] at h; cases h
    exact k8 _ _ b3 b4 (k4 _ _ b1 b2 (s0 _ _ h))
  · rw [List.map_append, List.map_append]
    refine RpAll.snoc (rx.tups t08 (tupOs_rows _)) (.tup (SqT.of ?_) (.cons (.str _) (.cons (rm.tups t08 (tupO_mk m)) .nil)))
    rw [upd_ne nq]
    exact upd_same
  · exact k8 _ _ (Ne.symm (ldb _ ej)) (Ne.symm rdb2) (k4 _ _ C.n2 C.n1 hdb)
  · rw [nsOf_snoc]
    by_cases e : ixS m = j
    · subst e
      rw [if_pos rfl, List.map_append, upd_ne (C.lr _ ej)]
      exact s67 _ _ upd_same
    · rw [if_neg e, List.append_nil]
      exact k8 _ _ (fun z => e (C.inj _ _ hj ej z).symm) (C.lr _ hj) (k4 _ _ (ldh _ hj) (lds _ hj) (hl _ hj))
  · exact k8 _ _ (Ne.symm (lds _ ej)) (Ne.symm rds) upd_same
  · exact kts4.mono ((SameT.of s5).trans ((SameT.updL hlj5).trans ((SameT.of s67).trans (SameT.updL hra7))))
  · refine k8 _ _ (Ne.symm (ldh _ ej)) (Ne.symm rdb) ?_
    rw [upd_ne (Ne.symm C.n3)]
    exact s3 _ _ upd_same
  · exact kth2.mono (((SameT.of s3).trans (SameT.updK hds3)).trans ((SameT.of s5).trans ((SameT.updL hlj5).trans ((SameT.of s67).trans (SameT.updL hra7)))))
end Mb
set_option Elab.async false
set_option linter.all false
set_option maxRecDepth 100000
set_option maxHeartbeats 4000000
namespace Mb
open PySem PySem.Spec PyProof.Rows L2
/-! ### _law_plain_row, the walk -/
theorem merge_by (L : Nat → Addr) : mergeK [] (kvBy L) = kvBy L := by
  have ne : ∀ a b : Str, a ≠ b → decide ((Sum.inr a : Key) = Sum.inr b) = false := fun a b h => decide_eq_false fun z => h (Sum.inr.inj z)
  have n1 := ne "point" "line" (by decide +kernel)
  have n2 := ne "point" "circle" (by decide +kernel)
  have n3 := ne "point" "claim" (by decide +kernel)
  have n4 := ne "line" "circle" (by decide +kernel)
  have n5 := ne "line" "claim" (by decide +kernel)
  have n6 := ne "circle" "claim" (by decide +kernel)
  unfold mergeK kvBy
  simp only [List.foldl, putK, List.any_nil, List.any_cons, n1, n2, n3, n4, n5, n6, Bool.or_false, Bool.false_or, Bool.false_eq_true, if_false, List.nil_append, List.cons_append]
theorem ints_inv {K : PySem.W.Frag} {H : Hp} {p : Addr} {x y z : Int} (h : Rp K H (.ref p) (.list [.int x, .int y, .int z])) : H p = some (.lst [.int x, .int y, .int z]) := by
  obtain ⟨a, xs, e, ha, ra⟩ := h.lst_inv
  cases e
  have := RpAll.ints (ns := [x, y, z]) ra
  rw [this] at ha
  exact ha
theorem same_pool {H H1 H2 : Hp} {p : Addr} (s : Same H H1) (n : H p = none) (h : Same (hid H1 p) (hid H2 p)) : Same H H2 := fun b o e => by
  have nb : b ≠ p := fun z => by rw [z, n] at e; cases e
  have := h b o (by rw [hid_ne nb]; exact s _ _ e)
  rw [hid_ne nb] at this
  exact this
theorem noP_by (B : By) : noP (byD B) = true := by
  show (noP (.list (sds B.pts)) && (noP (.list (sds B.lns)) && (noP (.list (sds B.cis)) && (noP (.list (sds B.cls)) && true)))) = true
  rw [noP_sds, noP_sds, noP_sds, noP_sds]
  rfl
theorem nm_short : ∀ k : Nat, k < 16 → (toString (k : Int) : Str).length ≤ 100 ∧ ((k : Int).natAbs).log2 < 1920 := by decide +kernel
theorem upd_non {H : Hp} {p b : Addr} {o : HO} (h : upd H p o b = none) : b ≠ p ∧ H b = none := by
  by_cases e : b = p
  · subst e; rw [upd_same] at h; cases h
  · exact ⟨e, by rwa [upd_ne e] at h⟩
/-- what holds between two turns -/
def PInv (K : PySem.W.Frag) (H0 : Hp) (sv : V) (n : Nat) (RA DB DS DH : Addr) (L : Nat → Addr) (hd : Int) (i : Nat) (σ : L2.St) (H : Hp) : Prop := Same H0 H ∧ ∃ E, VR E ∧ E.length = i ∧ PAt K RA DB DS DH L E H ∧ ∃ k p nv mk, σ = [some sv, some (.int (n : Nat)), some (.ref RA), some (.ref DB), some (.ref DS), some (.ref DH), some (.int hd), k, p, nv, mk]
section
variable {t u : TDT} {δ : Dn}
theorem or_T1 {P : Bool → Prop} (ht : ∀ P : Bool → Prop, P true → t δ P) (h : P true) : dOr t u δ P := ht _ (iteT h)
theorem or_2 {P : Bool → Prop} (ht : ∀ P : Bool → Prop, P false → t δ P) (h : u δ P) : dOr t u δ P := ht _ (iteF h)
end
section
variable {P : Program} {w : World} {K : PySem.W.Frag} {mg : Str → Option Value} {base : Heap}
theorem raw_plain_row (F : Fx w K mg) (f : Addr) (cdv : Value) (A : Around) (outer : List Env) (s : Shared) (H : Hp) (E : XK) (hr : Room 5 (A.deeper (envOfC "_law_plain_row" (defScope s_law_plain_row) s.heap.objs.size f cdv))) : ∃ t, PSs (bodyX P w K mg base N_law_plain_row "_law_plain_row" s_law_plain_row f cdv A outer s H E) (defBody s_law_plain_row) t ∧
      ∀ (H : Hp) (vs : List V) (Q : VK) (E : XK), spRow K vs H Q E → t { nx := fun _ H' => Q .non H', rt := Q } (L2.start N_law_plain_row vs) H := by
  refine ⟨_, pss_cons (ps_set (i := 2) sc_law_plain_row.nd rfl (Or.inl rfl) (pe_lst pa_nil))
    (pss_cons (ps_set (i := 3) sc_law_plain_row.nd rfl (Or.inl rfl) (pe_disp (pps_cons pe_str (pe_lst pa_nil) (pps_cons pe_str (pe_lst pa_nil) (pps_cons pe_str (pe_lst pa_nil) (pps_cons pe_str (pe_lst pa_nil) pps_nil)))) (by rfl) (by rfl) (fun z => by cases z) (by decide)))
    (pss_cons (ps_set (i := 4) sc_law_plain_row.nd rfl (Or.inl rfl) pe_dnewK)
    (pss_cons (ps_set (i := 5) sc_law_plain_row.nd rfl (Or.inl rfl) pe_dnewK)
    (pss_cons (ps_set (i := 6) sc_law_plain_row.nd rfl (Or.inl rfl) (pe_op op_add pe_int (pe_callP (H_law_take F) (hr.mono (by decide)) rfl (pa_cons (pe_pool (HP_law_pool F) (hr.mono (by decide)) rfl (pa_cons (pe_var (i := 0) rfl (Or.inl rfl)) (pa_cons pe_int pa_nil))) (pa_cons pe_int pa_nil)))))
    (pss_cons (ps_for PassesOwn.never rfl (pi_range1 rfl F.m_range (pa_cons (pe_var (i := 1) rfl (Or.inl rfl)) pa_nil)) (pg_name (i := 7) sc_law_plain_row.nd rfl (Or.inl rfl))
      (pss_cons (ps_set (i := 8) sc_law_plain_row.nd rfl (Or.inl rfl) (pe_pool (HP_law_pool F) (hr.mono (by decide)) rfl (pa_cons (pe_var (i := 0) rfl (Or.inl rfl)) (pa_cons (pe_op op_add pe_int (pe_var (i := 7) rfl (Or.inl rfl))) pa_nil))))
      (pss_cons (ps_set (i := 9) sc_law_plain_row.nd rfl (Or.inl rfl) (PD.run (pd_op op_add_str lk_addS gAddS_mo (pd_ix ix_str lk_ixS gIxS_mo pd_str (pd_op op_modN lk_mod gMod_mo (dv 7) pd_int)) (pd_callTy call_str_int lk_str gStr_mo rfl F.m_str boot_str (dv 7)))))
      (pss_cons (ps_set (i := 10) sc_law_plain_row.nd rfl (Or.inl rfl) (pe_callP (H_law_making F) hr rfl (pa_cons (pe_var (i := 8) rfl (Or.inl rfl)) (pa_cons (pe_var (i := 3) rfl (Or.inl rfl)) pa_nil))))
      (pss_cons (ps_if (PDT.run (PDW.pt (pdw_or (ptd_cmp op_lt lk_int cInt_mo (dv 7) (dv 6) (nomark _)) (pdw_or1 (ptd_cmp op_gt lk_int cInt_mo (pd_call (H_law_weight F) (hr.mono (by decide)) rfl (pda_cons (dv 10) (pda_cons (dv 4) (pda_cons (dv 5) pda_nil)))) pd_int (nomark _))))))
          (pss_one (ps_set (i := 10) sc_law_plain_row.nd rfl (Or.inl rfl) (pe_op op_catT (pe_tup (pa_cons pe_str pa_nil)) (pe_callP (H_law_plain_place F) hr rfl (pa_cons (pe_var (i := 8) rfl (Or.inl rfl)) pa_nil))))) pss_nil)
      (pss_cons (ps_dput (hu_of hr) (pe_var (i := 5) rfl (Or.inl rfl)) (pe_var (i := 9) rfl (Or.inl rfl)) (PD.run (pd_call (H_law_weight F) (hr.mono (by decide)) rfl (pda_cons (dv 10) (pda_cons (dv 4) (pda_cons (dv 5) pda_nil))))) rfl)
      (pss_cons (ps_dput (hu_of hr) (pe_var (i := 4) rfl (Or.inl rfl)) (pe_var (i := 9) rfl (Or.inl rfl)) (PD.run (pd_call (H_law_sort F) (hr.mono (by decide)) rfl (pda_cons (dv 10) pda_nil))) rfl)
      (pss_cons (ps_expr (pe_bm PySem.F.plainAttrs_list PySem.F.slot_list_append PySem.F.type_list_append mt_append (pe_dget (hu_of hr) (pe_var (i := 3) rfl (Or.inl rfl)) (PD.run (pd_dget (hu_of hr) (dv 4) (dv 9))) (fun _ _ => rfl)) (pa_cons (pe_var (i := 9) rfl (Or.inl rfl)) pa_nil)))
      (pss_one (ps_expr (pe_bm PySem.F.plainAttrs_list PySem.F.slot_list_append PySem.F.type_list_append mt_append (pe_var (i := 2) rfl (Or.inl rfl)) (pa_cons (pe_tup (pa_cons (pe_var (i := 9) rfl (Or.inl rfl)) (pa_cons (pe_var (i := 10) rfl (Or.inl rfl)) pa_nil))) pa_nil))))))))))))
    (pss_one (ps_ret (pe_var (i := 2) rfl (Or.inl rfl))))))))), ?_⟩
  rintro H vs Q E ⟨SA, ns, n, rfl, hS, n1, n16, hQ⟩
  -- the lists and dicts
  refine ⟨le_line (show (0 : Nat) ≤ 1000 by decide), fun RA g0 => ?_⟩
  intro DB g1
  refine ⟨le_line (show (0 : Nat) ≤ 1000 by decide), fun P0 g2 => ⟨le_line (show (0 : Nat) ≤ 1000 by decide), fun P1 g3 => ⟨le_line (show (0 : Nat) ≤ 1000 by decide), fun P2 g4 => ⟨le_line (show (0 : Nat) ≤ 1000 by decide), fun P3 g5 => ⟨?_, kvBy (fun j => [P0, P1, P2, P3].getD j 0), rfl, (show (4 : Nat) ≤ 15 by decide), ?_⟩⟩⟩⟩⟩
  · exact (same_upd g5) _ _ ((same_upd g4) _ _ ((same_upd g3) _ _ ((same_upd g2) _ _ upd_same)))
  rw [merge_by]
  intro DS g6
  intro DH g7
  have q2 := (same_upd (o := .lst []) g2).trans ((same_upd (o := .lst []) g3).trans ((same_upd (o := .lst []) g4).trans (same_upd (o := .lst []) g5)))
  have q1 := (same_upd (o := .dK []) g1).trans q2
  have q0 := (same_upd (o := .lst []) g0).trans q1
  have q6 := (same_upd (o := .dK []) g6).trans (same_upd (o := .dK []) g7)
  obtain ⟨b1, hb⟩ := upd_non g1
  obtain ⟨c1, h⟩ := upd_non g2
  obtain ⟨c2, hc⟩ := upd_non h
  obtain ⟨d1, h⟩ := upd_non g3
  obtain ⟨d2, h⟩ := upd_non h
  obtain ⟨d3, hd⟩ := upd_non h
  obtain ⟨e1, h⟩ := upd_non g4
  obtain ⟨e2, h⟩ := upd_non h
  obtain ⟨e3, h⟩ := upd_non h
  obtain ⟨e4, he⟩ := upd_non h
  obtain ⟨f1, h⟩ := upd_non g5
  obtain ⟨f2, h⟩ := upd_non h
  obtain ⟨f3, h⟩ := upd_non h
  obtain ⟨f4, h⟩ := upd_non h
  obtain ⟨f5, hf⟩ := upd_non h
  obtain ⟨s1, h⟩ := upd_non g6
  obtain ⟨s2, h⟩ := upd_non h
  obtain ⟨s3, h⟩ := upd_non h
  obtain ⟨s4, h⟩ := upd_non h
  obtain ⟨s5, h⟩ := upd_non h
  obtain ⟨s6, h⟩ := upd_non h
  obtain ⟨s7, hs⟩ := upd_non h
  obtain ⟨t1, h⟩ := upd_non g7
  obtain ⟨t2, h⟩ := upd_non h
  obtain ⟨t3, h⟩ := upd_non h
  obtain ⟨t4, h⟩ := upd_non h
  obtain ⟨t5, h⟩ := upd_non h
  obtain ⟨t6, h⟩ := upd_non h
  obtain ⟨t7, h⟩ := upd_non h
  obtain ⟨t8, ht⟩ := upd_non h
  have four : ∀ j : Nat, j < 4 → j = 0 ∨ j = 1 ∨ j = 2 ∨ j = 3 := fun j hj => by omega
  have C : Pc0 H RA DB DS DH (fun j => [P0, P1, P2, P3].getD j 0) := by
    refine ⟨g0, hb, hs, ht, fun j hj => ?_, fun i j hi hj z => ?_, fun j hj => ?_, Ne.symm s1, Ne.symm t2, Ne.symm t1⟩
    · rcases four j hj with rfl | rfl | rfl | rfl
      · exact hc
      · exact hd
      · exact he
      · exact hf
    · rcases four i hi with rfl | rfl | rfl | rfl <;> rcases four j hj with rfl | rfl | rfl | rfl <;> first
        | rfl
        | exact absurd z (Ne.symm d1) | exact absurd z d1
        | exact absurd z (Ne.symm e1) | exact absurd z e1
        | exact absurd z (Ne.symm e2) | exact absurd z e2
        | exact absurd z (Ne.symm f1) | exact absurd z f1
        | exact absurd z (Ne.symm f2) | exact absurd z f2
        | exact absurd z (Ne.symm f3) | exact absurd z f3
    · rcases four j hj with rfl | rfl | rfl | rfl
      · exact c2
      · exact d3
      · exact e4
      · exact f5
  have hl : ∀ j : Nat, j < 4 → ([P0, P1, P2, P3].getD j 0) ≠ DB := fun j hj => by
    rcases four j hj with rfl | rfl | rfl | rfl
    · exact c1
    · exact d2
    · exact e3
    · exact f4
  have pat : PAt K RA DB DS DH (fun j => [P0, P1, P2, P3].getD j 0) [] _ := ⟨⟨[], q6 _ _ (by rw [upd_ne (Ne.symm b1)]; exact q1 _ _ upd_same), .nil⟩, q6 _ _ upd_same, fun j hj => q6 _ _ (by
      rw [upd_ne (hl j hj)]
      rcases four j hj with rfl | rfl | rfl | rfl
      · exact (same_upd g5) _ _ ((same_upd g4) _ _ ((same_upd g3) _ _ upd_same))
      · exact (same_upd g5) _ _ ((same_upd g4) _ _ upd_same)
      · exact (same_upd g5) _ _ upd_same
      · exact upd_same), ⟨[], (same_upd g7) _ _ upd_same, .nil, by simp [sortsE]⟩, ⟨[], upd_same, .nil, by simp [heavyE]⟩⟩
  have sH : Same H _ := fun b o h => q6 b o (by
    rw [upd_ne (fun z => by rw [z, hb] at h; cases h)]
    exact q0 b o h)
  generalize (fun j => [P0, P1, P2, P3].getD j 0 : Nat → Addr) = L at C sH pat ⊢
  clear q0 q1 q2 q6 hl four
  -- head
  refine ⟨_, rfl, SA, ns, 1, rfl, Same.seqL sH hS, by decide, by decide, fun x y z hx hy hyn p H1 s1 np rp => ?_⟩
  refine ⟨p, [.int 4], [.int 4], 90000, rfl, ⟨x, y, z, rp, hx, hy, by omega⟩, by omega, .cons (.int 4) .nil, rfl, 4, rfl, by decide, by decide, fun rr h0 h1 v H2 s2 p2 r2 => ⟨1, rr, rfl, r2.int_inv, ?_⟩⟩
  have sH2 := sH.trans (same_pool s1 np s2)
  have pat2 := pat.mono (same_pool s1 np s2)
  -- the loop
  refine ⟨_, rfl, (n : Int), rfl, by omega, by omega, ?_⟩
  refine for_range (lo := 0) (PInv K H (.ref SA) n RA DB DS DH L (1 + rr)) ⟨sH2, [], .nil, rfl, pat2, none, none, none, none, rfl⟩ ?_ ?_
  · rintro i σ H1 hi ⟨s0, E, v, hE, pt, k0, p0, nv0, mk0, rfl⟩
    have hi : i < n := by omega
    subst hE
    have h16 : E.length < 16 := by omega
    refine ⟨_, rfl, _, rfl, _, _, rfl, rfl, SA, ns, _, rfl, Same.seqL s0 hS, by omega, by omega, fun x y z hx hy hyn p H2 s2 np rp => ?_⟩
    -- the name
    obtain ⟨c, hc, hn⟩ := nm_made E.length h16
    obtain ⟨ln1, ln2⟩ := nm_short E.length h16
    refine ⟨[none, none, none, none, none, none, none, some (.int (E.length : Nat)), none, none, none], env_none (env_none (env_none (env_none (env_none (env_none (env_none (env_some (by rw [Int.zero_add]; exact .int _) (env_none (env_none (env_none env_nil)))))))))), (by decide : (14 : Int) ≠ 0), c, ⟨le_line (by decide), hc⟩, ln2, Nat.le_trans (Nat.add_le_add (show (⟨#[c]⟩ : Str).length ≤ 1 from Nat.le_refl _) ln1) (le_line (by decide)), fun v3 H3 s3 r3 => ?_⟩
    rw [hn] at r3
    have ev := r3.str_inv
    subst ev
    have hp3 := s3 _ _ (rp)
    have s13 := s2.trans s3
    -- the making
    refine ⟨_, rfl, _, rfl, p, [.ref DB], [byD (byE E)], 90000, rfl, ⟨x, y, z, hp3, hx, hy, by omega⟩, by omega, .cons ((pt.mono s13).byD.hidP hp3 (noP_by _)) .nil, rfl, byE E, rfl, ?_, fun m hm v4 H4 s4 p4 r4 => ?_⟩
    · have l0 := nsOf_len 0 E
      have l1 := nsOf_len 1 E
      have l2 := nsOf_len 2 E
      exact ⟨Nat.lt_of_le_of_lt l0 (by omega), Nat.lt_of_le_of_lt l1 (by omega), Nat.lt_of_le_of_lt l2 (by omega)⟩
    obtain ⟨cc, d⟩ := drawn_dr v hm
    have s14 := same_pool s13 np s4
    have rm := r4.mono (hid_same _ _)
    have pt4 := pt.mono s14
    obtain ⟨ks, hks, kts⟩ := pt4.s
    obtain ⟨kh, hkh, kth⟩ := pt4.h
    have env : EnvOk K H4 [none, none, none, none, some (sD (sortsE E)), some (Mb.hD (heavyE E)), some (.int (1 + rr)), some (.int (E.length : Nat)), none, none, some (mkD m)] [some (.ref SA), some (.int (n : Nat)), some (.ref RA), some (.ref DB), some (.ref DS), some (.ref DH), some (.int (1 + rr)), some (.int (0 + (E.length : Nat))), some (.ref p), some (.str (nm E.length)), some v4] := env_none (env_none (env_none (env_none (env_some (kts.sD hks) (env_some (kth.hD hkh) (env_some (.int _) (env_some (by rw [Int.zero_add]; exact .int _) (env_none (env_none (env_some rm env_nil))))))))))
    by_cases tst : (E.length : Int) < 1 + rr ∨ 40 < wgtOf m cc (hE E)
    · refine tif_T env (fun P h => ?_) fun H5 s5 => ?_
      · by_cases a : (E.length : Int) < 1 + rr
        · exact or_T1 (fun P h => (show P (decide ((E.length : Int) < 1 + rr)) by rw [decide_eq_true a]; exact h)) h
        · have b : 40 < wgtOf m cc (hE E) := by rcases tst with z | z; exact absurd z a; exact z
          exact or_2 (fun P h => (show P (decide ((E.length : Int) < 1 + rr)) by rw [decide_eq_false a]; exact h)) ⟨m, _, _, cc, hE E, rfl, d.wgd, (show P (decide ((40 : Int) < wgtOf m cc (hE E))) by rw [decide_eq_true b]; exact h)⟩
      refine ⟨le_line (show (1 : Nat) ≤ 1000 by decide), fun q hq => ?_⟩
      have p5 := (p4.same s5).same (same_upd (o := .tup [.str "free"]) hq)
      refine ⟨_, rfl, p, [], [], 90000 + 39, rfl, p5, by omega, .nil, rfl, rfl, fun pt1 w1 w2 v6 H6 s6 p6 r6 => ?_⟩
      obtain ⟨x', y', z', hD', _⟩ := p5
      have rx : Rp K (upd H5 q (.tup [.str "free"])) (.ref q) (.tuple [.str "free"]) := .tup (SqT.of upd_same) (.cons (.str _) .nil)
      have rx6 := ((rx.hidP hD' (by decide)).mono s6).mono (hid_same _ _)
      have s16 := same_pool ((s14.trans s5).trans (same_upd hq)) np s6
      refine lk_catT H6 _ _ _ _ _ rx6 (r6.mono (hid_same _ _)) ⟨⟨by simp, by simp, by simp⟩, fun v7 H7 s7 r7 => ?_⟩
      refine tail_ok C (s0.trans (s16.trans s7)) (pt.mono (s16.trans s7)) v (free_dr E w1 w2) h16 (by show (1 : Int) ≤ 40; omega) r7 _ _ _ _ _ _ (fun H' sH' v' pt' => ⟨sH', _, v', by simp, pt', _, _, _, _, rfl⟩)
    · have a : ¬ (E.length : Int) < 1 + rr := fun z => tst (.inl z)
      have b : ¬ 40 < wgtOf m cc (hE E) := fun z => tst (.inr z)
      refine tif_F env (fun P h => or_2 (fun P h => (show P (decide ((E.length : Int) < 1 + rr)) by rw [decide_eq_false a]; exact h)) ⟨m, _, _, cc, hE E, rfl, d.wgd, (show P (decide ((40 : Int) < wgtOf m cc (hE E))) by rw [decide_eq_false b]; exact h)⟩) fun H5 s5 => ?_
      exact tail_ok C (s0.trans (s14.trans s5)) (pt4.mono s5) v d h16 (by omega) (rm.mono s5) _ _ _ _ _ _ (fun H' sH' v' pt' => ⟨sH', _, v', by simp, pt', _, _, _, _, rfl⟩)
  · rintro σ H1 ⟨s0, E, v, hE, pt, k0, p0, nv0, mk0, rfl⟩
    obtain ⟨xs, hra, rx⟩ := pt.row
    exact ⟨_, rfl, hQ E v (by omega) _ _ s0 (.lst hra rx)⟩
theorem HS_law_plain_row (F : Fx w K mg) : HasS P w K mg base 6 "_law_plain_row" (spRow K) := by
  obtain ⟨f, fd, h1, h2, Fn⟩ := F.d_law_plain_row.ex
  refine ⟨⟨f, fd, P_law_plain_row, h1, h2, Fn.binds (fun _ _ _ _ _ _ us hl => match us, hl with | [_, _], _ => rfl), ?_⟩⟩
  refine Fn.ok sc_law_plain_row (fun vs H Q E h => ?_) (fun cdv A outer s H vs Q E hroom h => ?_)
  · obtain ⟨a, ns, i, rfl, _⟩ := h
    rfl
  · obtain ⟨t, ht, hq⟩ := raw_plain_row (P := P) (base := base) F f cdv A outer s H E hroom
    exact ⟨t, ht, hq H vs Q E h⟩
end
end Mb
set_option Elab.async false
set_option linter.all false
set_option maxRecDepth 100000
set_option maxHeartbeats 1000000
namespace Mb
open PySem PySem.Spec PyProof.Rows L2
/-! ### a row is equal to itself -/
theorem lay_append : ∀ a b : List PyData, PyData.canLayAll0 (a ++ b) = (PyData.canLayAll0 a && PyData.canLayAll0 b)
  | [], b => by simp [PyData.canLayAll0]
  | x :: a, b => by
    rw [List.cons_append, PyData.canLayAll0, PyData.canLayAll0, lay_append a b, Bool.and_assoc]
theorem word_lay (m : Mk) : PyData.strOk m.word = true := by
  cases m <;> (simp only [Mk.word]; decide +kernel)
theorem sds_lay : ∀ ns : List Str, (∀ n ∈ ns, PyData.strOk n = true) → PyData.canLayAll0 (sds ns) = true
  | [], _ => rfl
  | n :: ns, h => by
    show (PyData.canLay0 (.str n) && PyData.canLayAll0 (sds ns)) = true
    rw [sds_lay ns fun x hx => h x (List.mem_cons_of_mem _ hx), PyData.canLay0, h n (List.mem_cons_self ..)]
    rfl
theorem xs_lay (m : Mk) : PyData.canLayAll0 m.xs = true := by cases m <;> rfl
theorem look_mem {α : Type} {k : Str} {a : α} : ∀ {l : List (Str × α)}, look l k = some a → k ∈ l.map Prod.fst
  | [], h => by cases h
  | (x, b) :: l, h => by
    have h : (if x = k then some b else look l k) = some a := h
    by_cases e : x = k
    · subst e; exact List.mem_cons_self ..
    · rw [if_neg e] at h
      exact List.mem_cons_of_mem _ (look_mem h)
theorem VR.nm {E : Ew} (v : VR E) : ∀ e ∈ E, ∃ j, j < 16 ∧ e.n = Mb.nm j := by
  induction v with
  | nil => intro e h; cases h
  | snoc v f ih =>
    intro e h
    rcases List.mem_append.mp h with h | h
    · exact ih e h
    · rw [List.mem_singleton] at h
      subst h
      exact ⟨_, f.small, f.name⟩
theorem VR.lay {E : Ew} (v : VR E) : PyData.canLayAll0 ((E.map En.r).map rowD) = true := by
  induction v with
  | nil => rfl
  | @snoc E e v f ih =>
    rw [List.map_append, List.map_append, lay_append, ih, Bool.true_and]
    show (PyData.canLay0 (rowD (e.n, e.m)) && true) = true
    rw [Bool.and_true]
    have h1 : PyData.strOk e.n = true := by rw [f.name]; exact nm_lay _ f.small
    have h2 : PyData.canLayAll0 (sds e.m.gr) = true := sds_lay _ fun n hn => by
      obtain ⟨s, hs⟩ := f.fits.get n hn
      have hm := look_mem hs
      unfold sortsE at hm
      rw [List.map_map] at hm
      obtain ⟨e', he', rfl⟩ := List.mem_map.mp hm
      obtain ⟨j, hj, ej⟩ := v.nm e' he'
      show PyData.strOk e'.n = true
      rw [ej]
      exact nm_lay j hj
    show (PyData.strOk e.n && ((PyData.strOk e.m.word && PyData.canLayAll0 (sds e.m.gr ++ e.m.xs)) && true)) = true
    rw [h1, word_lay, lay_append, h2, xs_lay]
    rfl
theorem depth_append : ∀ {n : Nat} {a b : List PyData}, PyData.depthAll a ≤ n → PyData.depthAll b ≤ n → PyData.depthAll (a ++ b) ≤ n
  | n, [], b, _, h => h
  | n, x :: a, b, h, g => by
    rw [List.cons_append, PyData.depthAll] at *
    have := depth_append (n := n) (a := a) (b := b) (by omega) g
    omega
theorem depth_all {n : Nat} : ∀ {l : List PyData}, (∀ d ∈ l, PyData.depth d ≤ n) → PyData.depthAll l ≤ n
  | [], _ => by simp [PyData.depthAll]
  | x :: l, h => by
    rw [PyData.depthAll]
    have h1 := h x (List.mem_cons_self ..)
    have h2 := depth_all (n := n) (l := l) fun d hd => h d (List.mem_cons_of_mem _ hd)
    omega
theorem xs_depth (m : Mk) : PyData.depthAll m.xs ≤ 1 := by
  cases m <;> simp [Mk.xs, PyData.depthAll, PyData.depth, fr]
theorem mk_depth (m : Mk) : PyData.depth (mkD m) ≤ 2 := by
  unfold mkD
  rw [PyData.depth, PyData.depthAll, PyData.depth]
  have h1 : PyData.depthAll (sds m.gr) ≤ 1 := depth_all fun d hd => by
    obtain ⟨n, _, rfl⟩ := List.mem_map.mp hd
    simp [PyData.depth]
  have := depth_append h1 (xs_depth m)
  omega
theorem row_depth (R : Rw) : PyData.depth (.list (R.map rowD)) ≤ 64 := by
  rw [PyData.depth]
  have : PyData.depthAll (R.map rowD) ≤ 3 := depth_all fun d hd => by
    obtain ⟨x, _, rfl⟩ := List.mem_map.mp hd
    have := mk_depth x.2
    simp only [rowD, PyData.depth, PyData.depthAll]
    omega
  omega
theorem VR.ne {E : Ew} (v : VR E) {P : Bool → Prop} (h : P false) : cNe (.list ((E.map En.r).map rowD)) (.list ((E.map En.r).map rowD)) P := by
  have l : PyData.canLay0 (.list ((E.map En.r).map rowD)) = true := v.lay
  have s : SeqAt.shaped (.list ((E.map En.r).map rowD)) = true := by
    unfold SeqAt.shaped
    rw [l, decide_eq_true (row_depth _)]
    rfl
  refine ⟨⟨s, s⟩, ?_⟩
  rw [PySem.SeqAt.eqv_refl _ l]
  exact h
theorem TOk.vr : ∀ {E : Ew} {A : At}, TOk E A → VR E
  | _, _, .nil => .nil
  | _, _, .snoc h f _ _ _ _ => .snoc h.vr f
end Mb
set_option Elab.async false
set_option linter.all false
set_option maxRecDepth 100000
set_option maxHeartbeats 4000000
namespace Mb
open PySem PySem.Spec PyProof.Rows L2
local macro_rules | `(tactic| walk_at "nrm") => `(tactic| try dsimp only [startD, setAll, gSub, gAdd, gNeg, List.map, List.length, List.replicate, HAppend.hAppend, Append.append, List.append, List.set, Nat.reduceAdd, Nat.reduceSub])
/-! ### law -/
def spLaw (K : PySem.W.Frag) : Sp := fun vs H Q _ => ∃ (a : Addr) (ns : List Int), vs = [.ref a] ∧ SqL K H a (ns.map V.int) ∧ ∀ H', Q (.bl true) H'
abbrev shE : TD := dTup (dCons (dOp gIx (dOp gIx (dVar 1) (dVar 4)) (dC (.int 0))) (dCons (dOp gIx (dOp gIx (dVar 1) (dVar 4)) (dC (.int 1))) (dCons (dOp gIx (dVar 3) (dVar 4)) dNil)))
theorem comp_sheet {E : Ew} {A : At} (T : TOk E A) {x0 x2 : Option PyData} {Q : List PyData → Prop} (q : Q (shD E A)) : ∀ k j, j + k = E.length → compR 4 dYes shE [x0, some (.list ((E.map En.r).map rowD)), x2, some (.list (A.map fun x => tlD x.2)), none] Q ((rangeD E.length).drop j) ((shD E A).take j) := by
  have h16 := T.fineLen
  intro k
  induction k with
  | zero =>
    intro j hj
    rw [List.drop_eq_nil_of_le (by rw [rangeD_len]; omega), List.take_of_length_le (by rw [shD_len T]; omega)]
    exact q
  | succ k ih =>
    intro j hj
    have hj' : j < E.length := by omega
    obtain ⟨e, t, S⟩ := T.at j hj'
    rw [drop_cons (rangeD_get hj')]
    have e1 : atI ((E.map En.r).map rowD) (j : Int) = some (rowD (e.n, e.m)) := by
      rw [atI_nat (by rw [List.length_map, List.length_map]; exact hj'), List.getElem?_map, List.getElem?_map, S.e]
      rfl
    have e2 : atI (A.map fun x => tlD x.2) (j : Int) = some (tlD t) := by
      rw [atI_nat (by rw [List.length_map, T.len]; exact hj'), List.getElem?_map, S.a]
      rfl
    rw [compR]
    unfold dYes
    dsimp only
    rw [if_pos rfl]
    show optK (atI ((E.map En.r).map rowD) (j : Int)) _
    rw [e1]
    show optK (atI ((E.map En.r).map rowD) (j : Int)) _
    rw [e1]
    show optK (atI (A.map fun x => tlD x.2) (j : Int)) _
    rw [e2]
    refine ⟨by rw [List.length_take]; omega, ?_⟩
    have := ih (j + 1) (by omega)
    rw [take_snoc (shD_get S)] at this
    exact this
section
variable {P : Program} {w : World} {K : PySem.W.Frag} {mg : Str → Option Value} {base : Heap}
theorem raw_law (F : Fx w K mg) (TP : NTab w K mg "PLACES" nPLACES) (TL : NTab w K mg "LINES" nLINES) (f : Addr) (cdv : Value) (A : Around) (outer : List Env) (s : Shared) (H : Hp) (E : XK) (hr : Room 10 (A.deeper (envOfC "law" (defScope s_law) s.heap.objs.size f cdv))) : ∃ t, PSs (bodyX P w K mg base N_law "law" s_law f cdv A outer s H E) (defBody s_law) t ∧
      ∀ (H : Hp) (vs : List V) (Q : VK) (E : XK), spLaw K vs H Q E → t { nx := fun _ H' => Q .non H', rt := Q } (L2.start N_law vs) H := by
  refine ⟨_, pss_cons (ps_set (i := 1) sc_law.nd rfl (Or.inr rfl) (pe_callS (HS_law_plain_row F) (hr.mono (by decide)) rfl (pa_cons (pe_var (i := 0) rfl (Or.inl rfl)) (pa_cons (pe_op op_add pe_int (pe_callP (H_law_take F) (hr.mono (by decide)) rfl (pa_cons (pe_pool (HP_law_pool F) (hr.mono (by decide)) rfl (pa_cons (pe_var (i := 0) rfl (Or.inl rfl)) (pa_cons pe_int pa_nil))) (pa_cons pe_int pa_nil)))) pa_nil))))
    (PDSs.run (pdss_cons (pds_set (i := 2) sc_law.nd (pd_callTy call_list_of lk_list gList_mo rfl F.m_list boot_list (dv 1)))
    (pdss_cons (pds_set (i := 3) sc_law.nd (pd_call (H_anew F TP TL) hr rfl (pda_cons (dv 2) pda_nil)))
    (pdss_cons (pds_if (PDW.pt (pdw_or (ptd_not (ptd_val (pd_isi (T := "list") rfl F.m_isinstance rfl F.m_list (by decide +kernel) (dv 3)))) (pdw_or (ptd_cmp (op_neA hr.units) lk_ne cNe_mo (pd_callB call_lenA lk_len gLen_mo rfl F.m_len boot_len (dv 3)) (pd_callB call_lenA lk_len gLen_mo rfl F.m_len boot_len (dv 1)) (nomark _)) (pdw_or1 (ptd_cmp (op_neA hr.units) lk_ne cNe_mo (dv 2) (dv 1) (nomark _)))))) (pdss_one (pds_ret pd_bl)) pdss_nil)
    (pdss_one (pds_ret (pd_call (H_law_holds F) (hr.mono (by decide)) rfl (pda_cons (pd_lcN rfl sc_law.nd (blkOk_by (own := [("_law_k", 4)]) (N := N_law) (sc := defScope s_law) (by decide +kernel)) (fun _ _ _ _ _ => pg_name (i := 4) sc_law.nd rfl (Or.inl rfl)) (fun _ _ _ _ _ => pdts_nil) (fun _ _ _ _ _ => (pd_tup (pda_cons (pd_ix ix_tl lk_ix gIx_mo (pd_ix ix_tl lk_ix gIx_mo (dv 1) (dv 4)) pd_int) (pda_cons (pd_ix ix_tl lk_ix gIx_mo (pd_ix ix_tl lk_ix gIx_mo (dv 1) (dv 4)) pd_int) (pda_cons (pd_ix ix_tl lk_ix gIx_mo (dv 3) (dv 4)) pda_nil))))) rfl F.m_range (pd_callB call_lenA lk_len gLen_mo rfl F.m_len boot_len (dv 1))) pda_nil)))))))), ?_⟩
  rintro H vs Q E ⟨SA, ns, rfl, hS, hQ⟩
  refine ⟨_, rfl, _, rfl, SA, ns, 0, rfl, hS, by decide, by decide, fun x y z hx hy hyn p H1 s1 np rp => ?_⟩
  refine ⟨p, [.int 16], [.int 16], 90000, rfl, ⟨x, y, z, rp, hx, hy, by omega⟩, by omega, .cons (.int 16) .nil, rfl, 16, rfl, by decide, by decide, fun rr h0 h1 v H2 s2 p2 r2 => ⟨1, rr, rfl, r2.int_inv, ?_⟩⟩
  have s02 := same_pool s1 np s2
  obtain ⟨n, hn⟩ : ∃ n : Nat, 1 + rr = (n : Int) := ⟨(1 + rr).toNat, by omega⟩
  refine ⟨SA, ns, n, by rw [← hn], Same.seqL s02 hS, by omega, by omega, fun E vr lE v3 H3 s3 r3 => ?_⟩
  obtain ⟨A, T⟩ := vr.tells
  refine ⟨[none, some (.list ((E.map En.r).map rowD)), none, none, none], env_none (env_some r3 (env_none (env_none (env_none env_nil)))), ?_⟩
  refine seqSetV (d := .list ((E.map En.r).map rowD)) (fun P h => h) ?_
  refine seqSetV (d := .list (A.map fun x => tlD x.2)) (fun P h => ⟨E, A, rfl, T, h⟩) ?_
  have hl : (((A.map fun x => tlD x.2).length : Nat) : Int) = (((E.map En.r).map rowD).length : Nat) := by
    rw [List.length_map, List.length_map, List.length_map, T.len]
  refine seqIfF (fun P h => or_2 (fun P h => ⟨true, by simp [isiB], h⟩) (or_2 (fun P h => (show P (!decide ((((A.map fun x => tlD x.2).length : Nat) : Int) = (((E.map En.r).map rowD).length : Nat))) by rw [decide_eq_true hl]; exact h)) (vr.ne h))) (seqSkip ?_)
  have hlen : ((E.map En.r).map rowD).length = E.length := by rw [List.length_map, List.length_map]
  have h16 := T.fineLen
  refine ⟨⟨by omega, by omega⟩, ?_⟩
  have ht : (((((E.map En.r).map rowD).length : Nat) : Int)).toNat = E.length := by rw [hlen]; exact Int.toNat_natCast _
  rw [ht]
  refine comp_sheet T (Q := fun r => c_law_holds [.list r] _) ?_ E.length 0 (by omega)
  exact ⟨E, A, rfl, T, fun v4 H4 s4 r4 => by rw [r4.bl_inv]; exact hQ H4⟩
theorem HS_law (F : Fx w K mg) (TP : NTab w K mg "PLACES" nPLACES) (TL : NTab w K mg "LINES" nLINES) : HasS P w K mg base 11 "law" (spLaw K) := by
  obtain ⟨f, fd, h1, h2, Fn⟩ := F.d_law.ex
  refine ⟨⟨f, fd, P_law, h1, h2, Fn.binds (fun _ _ _ _ _ _ us hl => match us, hl with | [_], _ => rfl), ?_⟩⟩
  refine Fn.ok sc_law (fun vs H Q E h => ?_) (fun cdv A outer s H vs Q E hroom h => ?_)
  · obtain ⟨a, ns, rfl, _⟩ := h
    rfl
  · obtain ⟨t, ht, hq⟩ := raw_law (P := P) (base := base) F TP TL f cdv A outer s H E hroom
    exact ⟨t, ht, hq H vs Q E h⟩
end
end Mb
set_option Elab.async false
set_option linter.all false
set_option maxRecDepth 100000
set_option maxHeartbeats 1000000
namespace Mb
open PySem PySem.Spec PyProof.Rows L2
/-! ### what the head leaves, by names -/
section
variable {K : PySem.W.Frag} {w : World} {h : Heap} {mg : Str → Option Value}
theorem isStr_strO (v : Value) (x : Str) : v.isStr x = decide (strO v = some x) := by
  cases v <;> first
    | rfl
    | (rename_i s t
       show (s == x) = decide (some s = some x)
       rw [Bool.beq_eq_decide_eq, decide_eq_decide]
       exact ⟨fun h => by rw [h], fun h => Option.some.inj h⟩)
    | (show false = _
       rw [decide_eq_false]
       intro z
       cases z)
abbrev atN (ns : List (Option Str)) (x : Str) : Option Nat := ns.findIdx? fun o => decide (o = some x)
theorem find_key : ∀ {l : List DictEntry} {ns : List (Option Str)}, l.map (fun e => strO e.key) = ns → ∀ {x : Str} {i : Nat}, atN ns x = some i → ∃ e, l.find? (fun e => e.key.isStr x) = some e ∧ l[i]? = some e
  | [], ns, h, x, i, hi => by
    subst h
    cases hi
  | e :: l, ns, h, x, i, hi => by
    subst h
    rw [List.find?_cons, isStr_strO]
    unfold atN at hi
    rw [List.map_cons, List.findIdx?_cons] at hi
    cases q : decide (strO e.key = some x) with
    | true =>
      rw [q] at hi
      cases hi
      exact ⟨e, rfl, rfl⟩
    | false =>
      rw [q] at hi
      have hi : ((l.map fun e => strO e.key).findIdx? fun o => decide (o = some x)).map (fun i => i + 1) = some i := hi
      cases r : (l.map fun e => strO e.key).findIdx? fun o => decide (o = some x) with
      | none => rw [r] at hi; cases hi
      | some j =>
        rw [r] at hi
        cases hi
        obtain ⟨e', h1, h2⟩ := find_key (l := l) rfl r
        exact ⟨e', h1, by simpa using h2⟩
theorem no_key : ∀ {l : List DictEntry} {ns : List (Option Str)}, l.map (fun e => strO e.key) = ns → ∀ {x : Str}, atN ns x = none → (ns.all fun o => o.isSome) = true → l.find? (fun e => e.key.isStr x) = none ∧ l.any (fun e => e.refKey) = false
  | [], ns, h, x, _, _ => ⟨rfl, rfl⟩
  | e :: l, ns, h, x, hi, ha => by
    subst h
    rw [List.map_cons, List.all_cons, Bool.and_eq_true] at ha
    rw [List.find?_cons, isStr_strO, List.any_cons]
    unfold atN at hi
    rw [List.map_cons, List.findIdx?_cons] at hi
    cases q : decide (strO e.key = some x) with
    | true => rw [q] at hi; cases hi
    | false =>
      rw [q] at hi
      have hi : ((l.map fun e => strO e.key).findIdx? fun o => decide (o = some x)).map (fun i => i + 1) = none := hi
      have r : atN (l.map fun e => strO e.key) x = none := by
        unfold atN
        cases r : (l.map fun e => strO e.key).findIdx? fun o => decide (o = some x) with
        | none => rfl
        | some j => rw [r] at hi; cases hi
      obtain ⟨h1, h2⟩ := no_key (l := l) rfl r ha.2
      refine ⟨h1, ?_⟩
      have h3 : e.refKey = false := by
        unfold DictEntry.refKey
        cases k : e.key <;> first
          | rfl
          | (rw [k] at ha; exact absurd ha.1 Bool.false_ne_true)
      rw [h3, h2]
      rfl
theorem ents_of (c : obsK K = (namA, expA w)) : ∃ oc od es n osl, K.lookup mainGlobals = some ⟨oc, od, .dict es n, osl⟩ ∧ es.toList.map (fun e => strO e.key) = namA ∧ (es.toList.drop 9).map (fun e => desc1 K e.val) = expA w := by
  have c1 : (entsK K).map (fun e => strO e.key) = namA := congrArg Prod.fst c
  have c2 : ((entsK K).drop 9).map (fun e => desc1 K e.val) = expA w := congrArg Prod.snd c
  have ne : entsK K ≠ [] := fun z => by
    rw [z] at c1
    have := congrArg List.length c1
    exact absurd this (by decide +kernel)
  unfold entsK at c1 c2 ne
  cases q : K.lookup mainGlobals with
  | none => rw [q] at ne; exact absurd rfl ne
  | some o =>
    obtain ⟨oc, od, dt, osl⟩ := o
    rw [q] at c1 c2 ne
    cases dt with
    | dict es n => exact ⟨oc, od, es, n, osl, rfl, c1, c2⟩
    | _ => exact absurd rfl ne
theorem glob_at (c : obsK K = (namA, expA w)) (x : Str) (i : Nat) {d : D1} (hd : (expA w)[i]? = some d) (hi : atN namA x = some (9 + i)) : ∃ u, PySem.W.nsIn K mainGlobals x = some (some u) ∧ desc1 K u = d := by
  obtain ⟨oc, od, es, n, osl, q, c1, c2⟩ := ents_of c
  obtain ⟨e, h1, h2⟩ := find_key c1 hi
  refine ⟨e.val, ?_, ?_⟩
  · unfold PySem.W.nsIn
    rw [q]
    show (match es.toList.find? fun e => e.key.isStr x with
      | some e => some (some e.val)
      | none => _) = _
    rw [h1]
  · rw [← c2, List.getElem?_map, List.getElem?_drop, h2] at hd
    exact Option.some.inj hd
theorem free_at (c : obsK K = (namA, expA w)) (X : K.In h) (G : h.Ns mainGlobals mg) (x : Str) (hi : atN namA x = none) (ha : (namA.all fun o => o.isSome) = true) : mg x = none := by
  obtain ⟨oc, od, es, n, osl, q, c1, c2⟩ := ents_of c
  obtain ⟨h1, h2⟩ := no_key c1 hi ha
  refine PySem.W.mg_none_of X G ?_
  unfold PySem.W.nsIn
  rw [q]
  show (match es.toList.find? fun e => e.key.isStr x with
      | some e => some (some e.val)
      | none => if es.toList.any (fun e => e.refKey) then none else some none) = _
  rw [h1, h2]
  rfl
theorem desc1_fn {u : Value} {v : FnV} (e : desc1 K u = .fn v true) : ∃ a oc od fd osl, u = .ref a ∧ K.lookup a = some ⟨oc, od, .func fd, osl⟩ ∧ fdV fd = v ∧ fdB K fd = true := by
  unfold desc1 at e
  split at e
  · cases e
  · cases e
  · split at e
    · rename_i a _ oc od fd osl q
      injection e with e1 e2
      exact ⟨_, _, _, _, _, rfl, q, e1, e2⟩
    · cases e
    · cases e
  · cases e
theorem fun_of {x : Str} {st : Stmt} {a : Addr} {oc : Value} {od : Option Addr} {fd : FuncData} {osl : Array (Option Value)} (q : K.lookup a = some ⟨oc, od, .func fd, osl⟩) (e : fdV fd = fnD x st) (b : fdB K fd = true) : Fun K x x st a fd := by
  obtain ⟨n1, n2, n3, n4, n5, n6, n7, n8, n9, n10, n11, n12, n13, n14, n15⟩ := fd
  have e2 : (n1, n2, n3, n4, n5, n6, n7, n15) = (x, x, defArgs st, FuncBody.stmts (defBody st), defScope st, mainGlobals, ([] : List (Str × Addr)), builtinsNs) := e
  simp only [Prod.mk.injEq] at e2
  obtain ⟨h1, h2, h3, h4, h5, h6, h7, h8⟩ := e2
  subst h1 h2 h3 h4 h5 h6 h7 h8
  unfold fdB at b
  rw [Bool.and_eq_true] at b
  obtain ⟨b1, b2⟩ := b
  dsimp only at b1 b2
  have e8 : n8 = .none := by
    cases n8 <;> first | rfl | cases b1
  subst e8
  refine fun_mk (doc := n10) (pm := n11) (an := n12) (kV := n9) (cdv := n13) (ct := n14) q b2 ?_
  unfold PySem.W.keepIn
  dsimp only
  rw [q]
theorem def_at (c : obsK K = (namA, expA w)) (X : K.In h) (G : h.Ns mainGlobals mg) (x : Str) (st : Stmt) (i : Nat) (hd : (expA w)[i]? = some (.fn (fnD x st) true)) (hi : atN namA x = some (9 + i)) : DefAt K mg x st := by
  obtain ⟨u, h1, h2⟩ := glob_at c x i hd hi
  obtain ⟨a, oc, od, fd, osl, rfl, q, e1, e2⟩ := desc1_fn h2
  have F := fun_of q e1 e2
  exact ⟨a, fd, PySem.W.mg_of X G h1, F.kp, F⟩
theorem val_int (c : obsK K = (namA, expA w)) (X : K.In h) (G : h.Ns mainGlobals mg) (x : Str) (v : Int) (i : Nat) (hd : (expA w)[i]? = some (.int v)) (hi : atN namA x = some (9 + i)) : GVal mg x (.int v) := by
  obtain ⟨u, h1, h2⟩ := glob_at c x i hd hi
  refine ⟨u, PySem.W.mg_of X G h1, ?_⟩
  unfold desc1 at h2
  split at h2
  · rename_i j t
    injection h2 with h2
    exact ⟨t, by rw [h2]⟩
  · cases h2
  · split at h2 <;> cases h2
  · cases h2
theorem val_str (c : obsK K = (namA, expA w)) (X : K.In h) (G : h.Ns mainGlobals mg) (x : Str) (v : Str) (i : Nat) (hd : (expA w)[i]? = some (.str v)) (hi : atN namA x = some (9 + i)) : GVal mg x (.str v) := by
  obtain ⟨u, h1, h2⟩ := glob_at c x i hd hi
  refine ⟨u, PySem.W.mg_of X G h1, ?_⟩
  unfold desc1 at h2
  split at h2
  · cases h2
  · rename_i j t
    injection h2 with h2
    exact ⟨t, by rw [h2]⟩
  · split at h2 <;> cases h2
  · cases h2
/-! dicts of the top -/
theorem desc1_dic {u : Value} {ks : List (Option (Str × Int))} {vs : List D2} (e : desc1 K u = .dic true ks vs) : ∃ a es n, u = .ref a ∧ K.lookup a = some ⟨.type "dict", none, .dict es n, #[]⟩ ∧ (a == sysModules) = false ∧ es.toList.map He.keyOf = ks ∧ es.toList.map (fun e => desc2 K e.val) = vs := by
  unfold desc1 at e
  split at e
  · cases e
  · cases e
  · split at e
    · cases e
    · rename_i a _ c es n sl q
      injection e with e1 e2 e3
      simp only [Bool.and_eq_true, decide_eq_true_eq, Bool.not_eq_true'] at e1
      obtain ⟨h1, h2, h3⟩ := e1
      subst h1
      have h4 : sl = #[] := Array.isEmpty_iff.mp h2
      subst h4
      exact ⟨_, _, _, rfl, q, h3, e2, e3⟩
    · cases e
  · cases e
/-- data of a value of such a dict -/
def d2D : D2 → Option PyData
  | .str x => some (.str x)
  | .tup l => if (l.all fun o => o.isSome) = true then some (.tuple (l.map fun o => .str (o.getD ""))) else none
  | _ => none
theorem strs_ok : ∀ {its : List Value} {l : List (Option Str)}, its.map strO = l → (l.all fun o => o.isSome) = true → Vals (l.map fun o => V.str (o.getD "")) its
  | [], _, h, _ => by subst h; exact .nil
  | v :: its, _, h, ha => by
    subst h
    rw [List.map_cons, List.all_cons, Bool.and_eq_true] at ha
    refine .cons ?_ (strs_ok (its := its) rfl ha.2)
    cases v <;> first
      | exact absurd ha.1 Bool.false_ne_true
      | exact ⟨_, rfl⟩
theorem rp_opts {H : Hp} : ∀ l : List (Option Str), RpAll K H (l.map fun o => V.str (o.getD "")) (l.map fun o => PyData.str (o.getD ""))
  | [] => .nil
  | o :: l => .cons (.str _) (rp_opts l)
theorem d2_ok {u : Value} {d2 : D2} {d : PyData} (e : desc2 K u = d2) (hd : d2D d2 = some d) : ∃ v, RelV v u ∧ ∀ H, Rp K H v d := by
  subst e
  unfold desc2 at hd
  split at hd
  · rename_i x t
    cases hd
    exact ⟨.str x, ⟨t, rfl⟩, fun H => .str x⟩
  · split at hd
    · rename_i a _ c od its n sl q
      split at hd
      · rename_i hc
        rw [Bool.and_eq_true] at hc
        obtain ⟨h1, h2⟩ := hc
        have hd : (if ((its.toList.map strO).all fun o => o.isSome) = true then some (PyData.tuple ((its.toList.map strO).map fun o => .str (o.getD ""))) else none) = some d := hd
        by_cases ha : ((its.toList.map strO).all fun o => o.isSome) = true
        · rw [if_pos ha] at hd
          cases hd
          refine ⟨.ref a, rfl, fun H => .tup (.inr ⟨_, its, n, q, congrArg Value.type (of_decide_eq_true h1), rfl, of_decide_eq_true h2, strs_ok rfl ha⟩) (rp_opts _)⟩
        · rw [if_neg ha] at hd
          cases hd
      · cases hd
    · cases hd
    · cases hd
  · cases hd
theorem tab_find : ∀ {l : List (Str × PyData)} {es : List DictEntry} {P : Params}, es.map He.keyOf = He.keysIn P (l.map Prod.fst) → (es.map fun e => d2D (desc2 K e.val)) = l.map (fun x => some x.2) → ∀ {k : Str} {d : PyData}, l.lookup k = some d → ∃ e, es.find? (fun e => e.key.isStr k) = some e ∧ d2D (desc2 K e.val) = some d
  | [], _, _, _, _, k, d, h => by cases h
  | (x, y) :: l, [], _, h, _, k, d, _ => by cases h
  | (x, y) :: l, e :: es, P, h1, h2, k, d, h => by
    have h1 : He.keyOf e :: es.map He.keyOf = some (x, PyData.keyHash P x) :: He.keysIn P (l.map Prod.fst) := h1
    injection h1 with h3 h4
    have h2 : d2D (desc2 K e.val) :: (es.map fun e => d2D (desc2 K e.val)) = some y :: l.map (fun x => some x.2) := h2
    injection h2 with h5 h6
    have hk : strO e.key = some x := by
      unfold He.keyOf at h3
      split at h3
      · rename_i z t q
        rw [q]
        have := Option.some.inj h3
        rw [show z = x from (Prod.mk.inj this).1]
        rfl
      · cases h3
    rw [List.find?_cons, isStr_strO, hk]
    rw [List.lookup_cons] at h
    by_cases q : k = x
    · subst q
      rw [show (k == k) = true from beq_self_eq_true k] at h
      cases h
      rw [decide_eq_true rfl]
      exact ⟨e, rfl, h5⟩
    · rw [show (k == x) = false from beq_eq_false_iff_ne.mpr q] at h
      rw [decide_eq_false (fun z => q (Option.some.inj z).symm)]
      exact tab_find h4 h6 h
theorem tab_at (c : obsK K = (namA, expA w)) (X : K.In h) (G : h.Ns mainGlobals mg) (x : Str) (l : List (Str × PyData)) (ks : List Str) (vs : List D2) (i : Nat) (hd : (expA w)[i]? = some (.dic true (He.keysIn w.params ks) vs)) (hi : atN namA x = some (9 + i)) (hk : ks = l.map Prod.fst) (hv : vs.map d2D = l.map fun x => some x.2) : GTab w K mg x fun k => l.lookup k := by
  obtain ⟨u, h1, h2⟩ := glob_at c x i hd hi
  obtain ⟨a, es, n, rfl, q, lo, e2, e3⟩ := desc1_dic h2
  refine ⟨a, PySem.W.mg_of X G h1, fun k d hkd => ?_⟩
  subst hk
  have e4 : (es.toList.map fun e => d2D (desc2 K e.val)) = l.map fun x => some x.2 := by
    rw [← hv, ← e3, List.map_map]
    rfl
  obtain ⟨e, f1, f2⟩ := tab_find e2 e4 hkd
  obtain ⟨v, rv, rp⟩ := d2_ok rfl f2
  refine ⟨v, ⟨es, n, e.val, q, He.keysLit_of e2, ?_, rv⟩, rp⟩
  unfold PySem.W.nsIn
  rw [q]
  show (match es.toList.find? fun e => e.key.isStr k with
      | some e => some (some e.val)
      | none => _) = _
  rw [f1]
end
end Mb
set_option Elab.async false
set_option linter.all false
set_option maxRecDepth 100000
set_option maxHeartbeats 1000000
namespace Mb
open PySem PySem.Spec PyProof.Rows L2
/-! ### all that is wanted of the head: printed by gen_facts.py -/
section
variable {K : PySem.W.Frag} {w : World} {h : Heap} {mg : Str → Option Value}
def fnName : D2 → Option Str
  | .fn v true => some v.1
  | _ => none
theorem fn_name {u : Value} {y : Str} (e : fnName (desc2 K u) = some y) : ∃ b, u = .ref b ∧ PySem.W.nsIn K mainGlobals y = some (some (.ref b)) := by
  unfold desc2 at e
  split at e
  · cases e
  · split at e
    · split at e <;> cases e
    · rename_i a _ oc od fd osl q
      have e : (match same1 K fd.name a with
        | true => some fd.name
        | false => none) = some y := by
        revert e
        unfold fnName fdV
        cases same1 K fd.name a <;> exact id
      cases z : same1 K fd.name a with
      | false => rw [z] at e; cases e
      | true =>
        rw [z] at e
        have e := Option.some.inj e
        subst e
        refine ⟨a, rfl, ?_⟩
        unfold same1 at z
        split at z
        · rename_i b hb
          rw [of_decide_eq_true z]
          exact hb
        · cases z
    · cases e
  · cases e
theorem keys_str {es : List DictEntry} : ∀ {ks : List Str} {P : Params}, es.map He.keyOf = He.keysIn P ks → es.any (fun e => e.refKey) = false := by
  induction es with
  | nil => intro ks P _; rfl
  | cons e es ih =>
    intro ks P h
    cases ks with
    | nil => cases h
    | cons k ks =>
      have h : He.keyOf e :: es.map He.keyOf = some (k, PyData.keyHash P k) :: He.keysIn P ks := h
      injection h with h1 h2
      rw [List.any_cons, ih h2, Bool.or_false]
      unfold He.keyOf at h1
      split at h1
      · rename_i z t q
        unfold DictEntry.refKey
        rw [q]
      · cases h1
theorem tab_names : ∀ {N : List (Str × Str)} {es : List DictEntry} {P : Params}, es.map He.keyOf = He.keysIn P (N.map Prod.fst) → (es.map fun e => fnName (desc2 K e.val)) = N.map (fun x => some x.2) → ∀ k : Str, (N.lookup k = none ∧ es.find? (fun e => e.key.isStr k) = none) ∨ ∃ y e, N.lookup k = some y ∧ es.find? (fun e => e.key.isStr k) = some e ∧ fnName (desc2 K e.val) = some y
  | [], [], _, _, _, k => .inl ⟨rfl, rfl⟩
  | [], _ :: _, _, h, _, k => by cases h
  | (x, y) :: l, [], _, h, _, k => by cases h
  | (x, y) :: l, e :: es, P, h1, h2, k => by
    have h1 : He.keyOf e :: es.map He.keyOf = some (x, PyData.keyHash P x) :: He.keysIn P (l.map Prod.fst) := h1
    injection h1 with h3 h4
    have h2 : fnName (desc2 K e.val) :: (es.map fun e => fnName (desc2 K e.val)) = some y :: l.map (fun x => some x.2) := h2
    injection h2 with h5 h6
    have hk : strO e.key = some x := by
      unfold He.keyOf at h3
      split at h3
      · rename_i z t q
        rw [q]
        have := Option.some.inj h3
        rw [show z = x from (Prod.mk.inj this).1]
        rfl
      · cases h3
    rw [List.find?_cons, isStr_strO, hk, List.lookup_cons]
    by_cases q : k = x
    · subst q
      rw [show (k == k) = true from beq_self_eq_true k, decide_eq_true rfl]
      exact .inr ⟨y, e, rfl, rfl, h5⟩
    · rw [show (k == x) = false from beq_eq_false_iff_ne.mpr q, decide_eq_false (fun z => q (Option.some.inj z).symm)]
      exact tab_names h4 h6 k
theorem ntab_at (c : obsK K = (namA, expA w)) (X : K.In h) (G : h.Ns mainGlobals mg) (x : Str) (N : List (Str × Str)) (ks : List Str) (vs : List D2) (i : Nat) (hd : (expA w)[i]? = some (.dic true (He.keysIn w.params ks) vs)) (hi : atN namA x = some (9 + i)) (hk : ks = N.map Prod.fst) (hv : vs.map fnName = N.map fun x => some x.2) : NTab w K mg x N := by
  obtain ⟨u, h1, h2⟩ := glob_at c x i hd hi
  obtain ⟨a, es, n, rfl, q, lo, e2, e3⟩ := desc1_dic h2
  subst hk
  have e4 : (es.toList.map fun e => fnName (desc2 K e.val)) = N.map fun x => some x.2 := by
    rw [← hv, ← e3, List.map_map]
    rfl
  refine ⟨a, es, n, PySem.W.mg_of X G h1, ⟨q, He.keysLit_of e2, lo⟩, fun k => ?_⟩
  have ns : ∀ o, es.toList.find? (fun e => e.key.isStr k) = o → PySem.W.nsIn K a k = some (o.map fun e => e.val) := fun o ho => by
    unfold PySem.W.nsIn
    rw [q]
    show (match es.toList.find? fun e => e.key.isStr k with
      | some e => some (some e.val)
      | none => if es.toList.any (fun e => e.refKey) then none else some none) = _
    rw [ho]
    cases o with
    | none =>
      dsimp only
      rw [keys_str e2]
      rfl
    | some e => rfl
  rcases tab_names e2 e4 k with ⟨f1, f2⟩ | ⟨y, e, f1, f2, f3⟩
  · exact .inl ⟨f1, ns _ f2⟩
  · obtain ⟨b, g1, g2⟩ := fn_name f3
    refine .inr ⟨y, b, f1, PySem.W.mg_of X G g2, ?_⟩
    rw [ns _ f2, ← g1]
    rfl
theorem nam_all : (namA.all fun o => o.isSome) = true := by decide +kernel
theorem fx (c : obsK K = (namA, expA w)) (X : K.In h) (G : h.Ns mainGlobals mg) : Fx w K mg where
  d_divisor := def_at c X G "divisor" s_divisor 8 rfl (by decide +kernel)
  d_fraction := def_at c X G "fraction" s_fraction 9 rfl (by decide +kernel)
  d_plus := def_at c X G "plus" s_plus 10 rfl (by decide +kernel)
  d_minus := def_at c X G "minus" s_minus 11 rfl (by decide +kernel)
  d_times := def_at c X G "times" s_times 12 rfl (by decide +kernel)
  d_over := def_at c X G "over" s_over 13 rfl (by decide +kernel)
  d_less := def_at c X G "less" s_less 14 rfl (by decide +kernel)
  d_whole_root := def_at c X G "whole_root" s_whole_root 15 rfl (by decide +kernel)
  d_root := def_at c X G "root" s_root 16 rfl (by decide +kernel)
  d_share := def_at c X G "share" s_share 17 rfl (by decide +kernel)
  d_middle := def_at c X G "middle" s_middle 18 rfl (by decide +kernel)
  d_beyond := def_at c X G "beyond" s_beyond 19 rfl (by decide +kernel)
  d_turned := def_at c X G "turned" s_turned 20 rfl (by decide +kernel)
  d_one_form := def_at c X G "one_form" s_one_form 21 rfl (by decide +kernel)
  d_over_one := def_at c X G "over_one" s_over_one 22 rfl (by decide +kernel)
  d_through := def_at c X G "through" s_through 23 rfl (by decide +kernel)
  d_along := def_at c X G "along" s_along 24 rfl (by decide +kernel)
  d_upright := def_at c X G "upright" s_upright 25 rfl (by decide +kernel)
  d_meet := def_at c X G "meet" s_meet 26 rfl (by decide +kernel)
  d_foot := def_at c X G "foot" s_foot 27 rfl (by decide +kernel)
  d_mirror := def_at c X G "mirror" s_mirror 28 rfl (by decide +kernel)
  d_square_between := def_at c X G "square_between" s_square_between 29 rfl (by decide +kernel)
  d_about := def_at c X G "about" s_about 30 rfl (by decide +kernel)
  d_ahead := def_at c X G "ahead" s_ahead 31 rfl (by decide +kernel)
  d_line_cuts := def_at c X G "line_cuts" s_line_cuts 32 rfl (by decide +kernel)
  d_between_line := def_at c X G "between_line" s_between_line 33 rfl (by decide +kernel)
  d_ring_cuts := def_at c X G "ring_cuts" s_ring_cuts 34 rfl (by decide +kernel)
  d_cross := def_at c X G "cross" s_cross 35 rfl (by decide +kernel)
  d_in_line := def_at c X G "in_line" s_in_line 36 rfl (by decide +kernel)
  d_side_by_side := def_at c X G "side_by_side" s_side_by_side 37 rfl (by decide +kernel)
  d_square_on := def_at c X G "square_on" s_square_on 38 rfl (by decide +kernel)
  d_all_round := def_at c X G "all_round" s_all_round 39 rfl (by decide +kernel)
  d_as_far := def_at c X G "as_far" s_as_far 40 rfl (by decide +kernel)
  d_sort_of := def_at c X G "sort_of" s_sort_of 45 rfl (by decide +kernel)
  d_grounds := def_at c X G "grounds" s_grounds 46 rfl (by decide +kernel)
  d_asked_sorts := def_at c X G "asked_sorts" s_asked_sorts 47 rfl (by decide +kernel)
  d_suits := def_at c X G "suits" s_suits 48 rfl (by decide +kernel)
  d_within := def_at c X G "within" s_within 49 rfl (by decide +kernel)
  d_too_far := def_at c X G "too_far" s_too_far 50 rfl (by decide +kernel)
  d_good := def_at c X G "good" s_good 53 rfl (by decide +kernel)
  d_weigh := def_at c X G "weigh" s_weigh 55 rfl (by decide +kernel)
  d_grounds_stand := def_at c X G "grounds_stand" s_grounds_stand 56 rfl (by decide +kernel)
  d_admitted := def_at c X G "admitted" s_admitted 57 rfl (by decide +kernel)
  d_judged := def_at c X G "judged" s_judged 60 rfl (by decide +kernel)
  d_shown_or := def_at c X G "shown_or" s_shown_or 61 rfl (by decide +kernel)
  d_cut_made := def_at c X G "cut_made" s_cut_made 62 rfl (by decide +kernel)
  d_telling_of := def_at c X G "telling_of" s_telling_of 64 rfl (by decide +kernel)
  d_law_gcd := def_at c X G "_law_gcd" s_law_gcd 69 rfl (by decide +kernel)
  d_law_low := def_at c X G "_law_low" s_law_low 70 rfl (by decide +kernel)
  d_law_plus := def_at c X G "_law_plus" s_law_plus 71 rfl (by decide +kernel)
  d_law_less := def_at c X G "_law_less" s_law_less 72 rfl (by decide +kernel)
  d_law_times := def_at c X G "_law_times" s_law_times 73 rfl (by decide +kernel)
  d_law_even := def_at c X G "_law_even" s_law_even 74 rfl (by decide +kernel)
  d_law_whole := def_at c X G "_law_whole" s_law_whole 75 rfl (by decide +kernel)
  d_law_is_frac := def_at c X G "_law_is_frac" s_law_is_frac 76 rfl (by decide +kernel)
  d_law_is_place := def_at c X G "_law_is_place" s_law_is_place 77 rfl (by decide +kernel)
  d_law_is_line := def_at c X G "_law_is_line" s_law_is_line 78 rfl (by decide +kernel)
  d_law_grounds := def_at c X G "_law_grounds" s_law_grounds 81 rfl (by decide +kernel)
  d_law_sort := def_at c X G "_law_sort" s_law_sort 82 rfl (by decide +kernel)
  d_law_weight := def_at c X G "_law_weight" s_law_weight 83 rfl (by decide +kernel)
  d_law_near := def_at c X G "_law_near" s_law_near 85 rfl (by decide +kernel)
  d_law_off := def_at c X G "_law_off" s_law_off 86 rfl (by decide +kernel)
  d_law_so := def_at c X G "_law_so" s_law_so 88 rfl (by decide +kernel)
  d_law_root := def_at c X G "_law_root" s_law_root 89 rfl (by decide +kernel)
  d_law_chord := def_at c X G "_law_chord" s_law_chord 90 rfl (by decide +kernel)
  d_law_parts := def_at c X G "_law_parts" s_law_parts 91 rfl (by decide +kernel)
  d_law_fail := def_at c X G "_law_fail" s_law_fail 92 rfl (by decide +kernel)
  d_law_first := def_at c X G "_law_first" s_law_first 93 rfl (by decide +kernel)
  d_law_on_way := def_at c X G "_law_on_way" s_law_on_way 94 rfl (by decide +kernel)
  d_law_point := def_at c X G "_law_point" s_law_point 95 rfl (by decide +kernel)
  d_law_line_fits := def_at c X G "_law_line_fits" s_law_line_fits 96 rfl (by decide +kernel)
  d_law_fits := def_at c X G "_law_fits" s_law_fits 97 rfl (by decide +kernel)
  d_law_pool := def_at c X G "_law_pool" s_law_pool 67 rfl (by decide +kernel)
  d_law_det := def_at c X G "_law_det" s_law_det 87 rfl (by decide +kernel)
  d_made_of := def_at c X G "made_of" s_made_of 63 rfl (by decide +kernel)
  d_law_take := def_at c X G "_law_take" s_law_take 68 rfl (by decide +kernel)
  d_law_frac := def_at c X G "_law_frac" s_law_frac 79 rfl (by decide +kernel)
  d_law_place := def_at c X G "_law_place" s_law_place 80 rfl (by decide +kernel)
  d_law_making := def_at c X G "_law_making" s_law_making 84 rfl (by decide +kernel)
  d_law_plain_place := def_at c X G "_law_plain_place" s_law_plain_place 99 rfl (by decide +kernel)
  d_law_plain_row := def_at c X G "_law_plain_row" s_law_plain_row 100 rfl (by decide +kernel)
  d_law := def_at c X G "law" s_law 101 rfl (by decide +kernel)
  d_law_holds := def_at c X G "_law_holds" s_law_holds 98 rfl (by decide +kernel)
  d_anew := def_at c X G "anew" s_anew 66 rfl (by decide +kernel)
  d_tellings_of := def_at c X G "tellings_of" s_tellings_of 65 rfl (by decide +kernel)
  m_abs := free_at c X G "abs" (by decide +kernel) nam_all
  m_bool := free_at c X G "bool" (by decide +kernel) nam_all
  m_enumerate := free_at c X G "enumerate" (by decide +kernel) nam_all
  m_int := free_at c X G "int" (by decide +kernel) nam_all
  m_isinstance := free_at c X G "isinstance" (by decide +kernel) nam_all
  m_len := free_at c X G "len" (by decide +kernel) nam_all
  m_list := free_at c X G "list" (by decide +kernel) nam_all
  m_range := free_at c X G "range" (by decide +kernel) nam_all
  m_str := free_at c X G "str" (by decide +kernel) nam_all
  m_sum := free_at c X G "sum" (by decide +kernel) nam_all
  m_tuple := free_at c X G "tuple" (by decide +kernel) nam_all
  m_zip := free_at c X G "zip" (by decide +kernel) nam_all
  g_SHARE_MOST := val_int c X G "SHARE_MOST" 1000 42 rfl (by decide +kernel)
  g_FREE_MOST := val_int c X G "FREE_MOST" 1000000000 41 rfl (by decide +kernel)
  g_LETTERS := val_str c X G "LETTERS" "abcdefghijklmnopqrstuvwxyz" 51 rfl (by decide +kernel)
  g_FIGURES := val_str c X G "FIGURES" "0123456789" 52 rfl (by decide +kernel)
  g_MOST := val_int c X G "MOST" 40 54 rfl (by decide +kernel)
  T_SORTS := tab_at c X G "SORTS" l_SORTS keys_SORTS vals_SORTS 43 rfl (by decide +kernel) rfl (by rfl)
  T_ASKED := tab_at c X G "ASKED" l_ASKED keys_ASKED vals_ASKED 44 rfl (by decide +kernel) rfl (by rfl)
theorem nt_PLACES (c : obsK K = (namA, expA w)) (X : K.In h) (G : h.Ns mainGlobals mg) : NTab w K mg "PLACES" nPLACES := ntab_at c X G "PLACES" nPLACES keys_PLACES vals_PLACES 58 rfl (by decide +kernel) rfl (by rfl)
theorem nt_LINES (c : obsK K = (namA, expA w)) (X : K.In h) (G : h.Ns mainGlobals mg) : NTab w K mg "LINES" nLINES := ntab_at c X G "LINES" nLINES keys_LINES vals_LINES 59 rfl (by decide +kernel) rfl (by rfl)
/-- the law's def keeps its promise -/
theorem law_ok {P : Program} (c : obsK K = (namA, expA w)) (X : K.In h) (G : h.Ns mainGlobals mg) : ∃ f fd, mg "law" = some (.ref f) ∧ (∀ (s : Shared) (u : Value), BindsTo s fd ⟨[u], []⟩ [("_law_script", u)]) ∧ ∀ base : Heap, FnOk P w K mg base CX0 11 f fd ["_law_script"] (spLaw K) := by
  have F := fx c X G
  have TP := nt_PLACES c X G
  have TL := nt_LINES c X G
  obtain ⟨f, fd, h1, h2, Fn⟩ := F.d_law.ex
  refine ⟨f, fd, h1, fun s u => ?_, fun base => ?_⟩
  · obtain ⟨oc, od, kV, doc, pm, an, cdv, ct, osl, rfl, lk, hcd⟩ := Fn.ex
    exact BindsTo.of_eq rfl
  · refine Fn.ok sc_law (fun vs H Q E h => ?_) (fun cdv A outer s H vs Q E hroom h => ?_)
    · obtain ⟨a, ns, rfl, _⟩ := h
      rfl
    · obtain ⟨t, ht, hq⟩ := raw_law (P := P) (base := base) F TP TL f cdv A outer s H E hroom
      exact ⟨t, ht, hq H vs Q E h⟩
end
end Mb
set_option Elab.async false
set_option linter.all false
set_option maxRecDepth 100000
set_option maxHeartbeats 0
open PySem PySem.W PySem.Calls PyProof.Rows
theorem PySem.Challenge.cw_movebook_k31_whole_tellings_holds : PySem.Challenge.rw_movebook_k31_whole_tellings.Holds := by
  w_on; o_law
  refine HandSHeadRun.head_any (r := OpenLaw.row PySem.Challenge.rw_movebook_k31_whole_tellings) (q := view (OpenLaw.row PySem.Challenge.rw_movebook_k31_whole_tellings).prog [112]) (H := Mb.hk) (ob := Mb.ob) (M := 7000) (loose := Mb.loose) (d := HandSHeadRun.topDef (OpenLaw.row PySem.Challenge.rw_movebook_k31_whole_tellings).prog 112) (kwd := []) Mb.ob_eq
    (by kernel_rfl) (fun s => by kernel_rfl) Mb.run (by kernel_rfl) (by kernel_rfl) (by kernel_rfl) (by rfl) (by first | assumption | decide +kernel) (by decide +kernel) ⟨rfl, rfl, rfl, rfl, rfl, by decide +kernel⟩ ?hw ?hc
  case hw => w_witness2
  case hc =>
    refine L2.walk_ofE (l := PySem.Challenge.rw_movebook_k31_whole_tellings) (n := 63) (k := 11) (x := "_law_script") (CX := L2.CX0) rfl (by decide) (by kernel_rfl) ⟨rfl, by decide, by decide⟩ ?F (fun _ _ _ _ z => z)
    intro w mg fa h Y G hmg0
    obtain ⟨K, KX, c⟩ := Y
    have hmg : mg ("law" : PySem.Str) = some (.ref fa) := by
      have e : (HandSHeadRun.topDef (OpenLaw.row PySem.Challenge.rw_movebook_k31_whole_tellings).prog 112).name = ("law" : PySem.Str) := by kernel_rfl
      rw [← e]
      exact hmg0
    obtain ⟨f, fd, h1, hb, hF⟩ := Mb.law_ok (P := (PySem.Challenge.rw_movebook_k31_whole_tellings).prog) (w := w) c KX G
    have e := hmg.symm.trans h1
    cases e
    exact ⟨K, fd, Mb.spLaw K, KX, hb, fun H a ns hl _ hS => ⟨a, ns, rfl, hS, fun _ => rfl⟩, fun base _ _ => hF base⟩
